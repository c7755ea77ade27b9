import PyProof.Rows.All
import HandS.Exc
import HandS.Lambda
import Wide.All
import OpenK.AllK
import Wide.FinOn
import HandS.ForMost
import HandS.Dict
import HandS.TupAny
import HandS.Style
import HandS.Deep
import HandS.IsInst
import HandS.Flow
import HandS.WordsDict
import HandS.RaiseMore
import HandS.Defaults
import HandS.Head0
import HandS.Head1
import HandS.Head2
import HandS.HeadEnd
import HandS.HeadHook1
import HandS.HeadHook2
import HandS.SortInts
import HandS.Conv
import KE.GoesMore
import KE.GoesZip
import HandS.Zip
import HandS.Star
import KE.SortData
import HandS.More
import HandS.Strs
import HandS.OwnEq
import HandS.DictComp
import HandS.ReCall
import KE.SortKeyHeap
import HandS.SortKw
import HandS.Finally
import KE.KItemsList
import KE.KDictZip
import HandS.ListItems
import HandS.ExcValue
import HandS.ExcIs
import HandS.HeadHook4
import HandS.EndTab
import PyProof.ExcBaseAll.ValueError
import HandS.ExcInit
import HandS.ExcField
import PyProof.StrLawsRepr
import PyProof.StrOps2
import PySem.Challenge.RW_farkeepers_k01_errors_by_hand
import KE.KStateDown
import Lean
set_option Elab.async false
set_option linter.all false
set_option maxRecDepth 100000
set_option maxHeartbeats 4000001
namespace DL
open PySem L2
/-- the built-in classes that are asked for -/
inductive BT where
  | int | bool | str | tup | lst | dct
  deriving DecidableEq
def BT.name : BT → String
  | .int => "int"
  | .bool => "bool"
  | .str => "str"
  | .tup => "tuple"
  | .lst => "list"
  | .dct => "dict"
inductive D where
  | non
  | bl (b : Bool)
  | int (i : Int)
  | str (x : Str)
  | tup (ds : List D)
  | lst (o : Bool) (ds : List D)
  | dct (o : Bool) (ks : List Key) (vs : List D)
  | obj (o : Bool) (c : Str) (ns : List Str) (vs : List D)
  | ty (n : BT)
  | glo (x : Str)
  | scr (ds : List D)
  | raw (o : Bool) (u : HO)
  | exc (c : Str) (ns : List Str) (vs : List D)
  | hole
  | tab (g q : Str)
mutual
/-- all flags down: nothing of it may be changed any more -/
def fz : D → D
  | .tup ds => .tup (fzs ds)
  | .lst _ ds => .lst false (fzs ds)
  | .dct _ ks vs => .dct false ks (fzs vs)
  | .obj _ c ns vs => .obj false c ns (fzs vs)
  | .non => .non
  | .bl b => .bl b
  | .int i => .int i
  | .str x => .str x
  | .ty n => .ty n
  | .glo x => .glo x
  | .scr ds => .scr (fzs ds)
  | .raw _ u => .raw false u
  | .exc c ns vs => .exc c ns (fzs vs)
  | .hole => .hole
  | .tab _ _ => .hole
def fzs : List D → List D
  | [] => []
  | d :: r => fz d :: fzs r
end
mutual
def isFz : D → Bool
  | .tup ds => isFzs ds
  | .lst o ds => !o && isFzs ds
  | .dct o _ vs => !o && isFzs vs
  | .obj o _ _ vs => !o && isFzs vs
  | .scr ds => isFzs ds
  | .raw o _ => !o
  | .exc _ _ vs => isFzs vs
  | .tab _ _ => false
  | _ => true
def isFzs : List D → Bool
  | [] => true
  | d :: r => isFz d && isFzs r
end
mutual
/-- no part of it is shared -/
def noal : D → Bool
  | .tup ds => noals ds
  | .lst o ds => o && noals ds
  | .dct o _ vs => o && noals vs
  | .obj o _ _ vs => o && noals vs
  | .scr _ => false
  | .raw o _ => o
  | .exc _ _ _ => false
  | .hole => false
  | _ => true
def noals : List D → Bool
  | [] => true
  | d :: r => noal d && noals r
end
theorem fzs_map : ∀ ds : List D, fzs ds = ds.map fz
  | [] => rfl
  | d :: r => by rw [fzs, fzs_map r]; rfl
theorem fzs_length (ds : List D) : (fzs ds).length = ds.length := by rw [fzs_map, List.length_map]
mutual
theorem fz_isFz : ∀ d : D, isFz d = true → fz d = d
  | .tup ds, h => by simp only [isFz] at h; simp only [fz, fzs_isFzs ds h]
  | .lst o ds, h => by
    simp only [isFz, Bool.and_eq_true, Bool.not_eq_true'] at h
    simp only [fz, fzs_isFzs ds h.2, h.1]
  | .dct o ks ds, h => by
    simp only [isFz, Bool.and_eq_true, Bool.not_eq_true'] at h
    simp only [fz, fzs_isFzs ds h.2, h.1]
  | .obj o c ns ds, h => by
    simp only [isFz, Bool.and_eq_true, Bool.not_eq_true'] at h
    simp only [fz, fzs_isFzs ds h.2, h.1]
  | .non, _ => rfl
  | .bl _, _ => rfl
  | .int _, _ => rfl
  | .str _, _ => rfl
  | .ty _, _ => rfl
  | .glo _, _ => rfl
  | .scr ds, h => by simp only [isFz] at h; simp only [fz, fzs_isFzs ds h]
  | .raw o u, h => by
    simp only [isFz, Bool.not_eq_true'] at h
    simp only [fz, h]
  | .exc c ns ds, h => by simp only [isFz] at h; simp only [fz, fzs_isFzs ds h]
  | .hole, _ => rfl
  | .tab _ _, h => by simp [isFz] at h
theorem fzs_isFzs : ∀ ds : List D, isFzs ds = true → fzs ds = ds
  | [], _ => rfl
  | d :: r, h => by
    simp only [isFzs, Bool.and_eq_true] at h
    simp only [fzs, fz_isFz d h.1, fzs_isFzs r h.2]
end
mutual
theorem isFz_fz : ∀ d : D, isFz (fz d) = true
  | .tup ds => by simp only [fz, isFz, isFzs_fzs ds]
  | .lst o ds => by simp only [fz, isFz, isFzs_fzs ds]; rfl
  | .dct o ks ds => by simp only [fz, isFz, isFzs_fzs ds]; rfl
  | .obj o c ns ds => by simp only [fz, isFz, isFzs_fzs ds]; rfl
  | .non => rfl
  | .bl _ => rfl
  | .int _ => rfl
  | .str _ => rfl
  | .ty _ => rfl
  | .glo _ => rfl
  | .scr ds => by simp only [fz, isFz, isFzs_fzs ds]
  | .raw o u => rfl
  | .exc c ns ds => by simp only [fz, isFz, isFzs_fzs ds]
  | .hole => rfl
  | .tab _ _ => rfl
theorem isFzs_fzs : ∀ ds : List D, isFzs (fzs ds) = true
  | [] => rfl
  | d :: r => by simp only [fzs, isFzs, isFz_fz d, isFzs_fzs r]; rfl
end
theorem isFzs_get : ∀ {ds : List D} {i : Nat} {d : D}, isFzs ds = true → ds[i]? = some d → isFz d = true
  | [], i, d, _, h => by simp at h
  | x :: r, 0, d, h, e => by
    simp only [isFzs, Bool.and_eq_true] at h
    have : x = d := by simpa using e
    rw [← this]; exact h.1
  | x :: r, i + 1, d, h, e => by
    simp only [isFzs, Bool.and_eq_true] at h
    exact isFzs_get h.2 (by simpa using e)
theorem isFzs_iff : ∀ {ds : List D}, isFzs ds = true ↔ ∀ d ∈ ds, isFz d = true
  | [] => by simp [isFzs]
  | x :: r => by simp [isFzs, isFzs_iff (ds := r)]
/-- a list of the written part -/
def SqLK (K : PySem.W.Frag) (a : Addr) (xs : List V) : Prop := ∃ (o : Obj) (its : Array Value) (n : Nat), K.lookup a = some o ∧ o.cls = .type "list" ∧ o.dict = none ∧ o.data = .seq its n ∧ its.size ≤ sizeLine ∧ Vals xs its.toList
theorem SqLK.sq {K : PySem.W.Frag} {H : Hp} {a : Addr} {xs : List V} (h : SqLK K a xs) : SqL K H a xs := .inr h
/-- what never changes -/
def pers : HO → Bool
  | .tup _ => true
  | .frz _ _ => true
  | _ => false
/-- the script: known to the object, or one of the module's own -/
def ScrAt (K : PySem.W.Frag) (H : Hp) (a : Addr) (vs : List V) : Prop := (∃ o, H a = some (.frz o (.lst vs))) ∨ SqLK K a vs
theorem ScrAt.sq {K : PySem.W.Frag} {H : Hp} {a : Addr} {vs : List V} (h : ScrAt K H a vs) : SqL K H a vs := by
  rcases h with ⟨o, h⟩ | h
  · exact .inl (.inr ⟨o, h⟩)
  · exact h.sq
theorem ScrAt.keep {K : PySem.W.Frag} {H H' : Hp} {a : Addr} {vs : List V} (h : ScrAt K H a vs) (k : ∀ a o, H a = some o → pers o = true → H' a = some o) : ScrAt K H' a vs := by
  rcases h with ⟨o, h⟩ | h
  · exact .inl ⟨o, k _ _ h rfl⟩
  · exact .inr h
/-- an exception of the class cls, its own dict d, at a -/
def ExV (cls : Value) (d : Option Addr) (a : Addr) : HO := .ext fun h => ∃ (oe : Obj) (vs : Array Value), h.get? a = some oe ∧ Zc cls d oe ∧ oe.data = .fields vs
/-- a tuple that has no dict of its own -/
def PlT (H : Hp) (t : Addr) : Prop := ∃ (o : Obj) (xs : List V), H t = some (.frz o (.tup xs)) ∧ o.dict = none
/-- the attribute names of an instance is such a tuple, if it is one -/
def NmU (H : Hp) : HO → Prop
  | .ins _ _ fs => ∀ t, fs.lookup ("names" : Str) = some (.ref t) → PlT H t
  | _ => True
theorem PlT.keep {H H' : Hp} {t : Addr} (h : PlT H t) (k : ∀ a o, H a = some o → pers o = true → H' a = some o) : PlT H' t := let ⟨o, xs, e, d⟩ := h; ⟨o, xs, k _ _ e rfl, d⟩
theorem NmU.imp {H H' : Hp} {u : HO} (h : NmU H u) (k : ∀ t, PlT H t → PlT H' t) : NmU H' u := by
  cases u with
  | ins C dx fs => exact fun t e => k t (h t e)
  | _ => trivial
theorem NmU.keep {H H' : Hp} {u : HO} (h : NmU H u) (k : ∀ a o, H a = some o → pers o = true → H' a = some o) : NmU H' u := h.imp fun _ p => p.keep k
/-- P: the table of code objects of the def g -/
def TabK (K : PySem.W.Frag) (mg : Str → Option Value) (g : Str) (P : Addr) : Prop := ∃ (f c : Addr) (oc : Value) (od : Option Addr) (fd : FuncData) (osl : Array (Option Value)) (o : Obj) (vs : Array Value),
  mg g = some (.ref f) ∧ K.lookup f = some ⟨oc, od, .func fd, osl⟩ ∧ fd.code = .ref c ∧ K.lookup c = some o ∧ o.data = .fields vs ∧ vs[11]? = some (.ref P)
theorem TabK.one {K : PySem.W.Frag} {mg : Str → Option Value} {g : Str} {P Q : Addr} (a : TabK K mg g P) (b : TabK K mg g Q) : P = Q := by
  obtain ⟨f, c, oc, od, fd, osl, o, vs, a1, a2, a3, a4, a5, a6⟩ := a
  obtain ⟨f', c', oc', od', fd', osl', o', vs', b1, b2, b3, b4, b5, b6⟩ := b
  rw [a1] at b1; cases b1
  rw [a2] at b2; cases b2
  rw [a3] at b3; cases b3
  rw [a4] at b4; cases b4
  rw [a5] at b5; cases b5
  rw [a6] at b6; cases b6
  rfl
mutual
/-- the tree d stands for the value v in H: Z: where what is shared lies; F: what is its own -/
inductive Rep (K : PySem.W.Frag) (mg : Str → Option Value) (H : Hp) (Z : Addr → Prop) : V → D → List Addr → Prop
  | non : Rep K mg H Z .non .non []
  | bl {b} : Rep K mg H Z (.bl b) (.bl b) []
  | int {i} : Rep K mg H Z (.int i) (.int i) []
  | str {x} : Rep K mg H Z (.str x) (.str x) []
  | ty {n} : Rep K mg H Z (.ty n.name) (.ty n) []
  | glo {x a} : mg x = some (.ref a) → Rep K mg H Z (.ref a) (.glo x) []
  | tup {a vs ds F} : SqT K H a vs → Reps K mg H Z vs ds F → Rep K mg H Z (.ref a) (.tup ds) F
  | scr {a vs ds} : ScrAt K H a vs → Reps K mg H Z vs ds [] → Rep K mg H Z (.ref a) (.scr ds) []
  | rawF {a u} : Rd H a u → pers u = false → Z a → NmU H u → Rep K mg H Z (.ref a) (.raw false u) []
  | rawO {a u} : H a = some u → pers u = false → NmU H u → Rep K mg H Z (.ref a) (.raw true u) [a]
  | lstF {a vs ds} : H a = some (.lst vs) → Z a → Reps K mg H Z vs ds [] → Rep K mg H Z (.ref a) (.lst false ds) []
  | lstO {a vs ds F} : H a = some (.lst vs) → Reps K mg H Z vs ds F → Rep K mg H Z (.ref a) (.lst true ds) (a :: F)
  | dctF {a kvs ks ds} : Rd H a (.dK kvs) → Z a → kvs.map (·.1) = ks ∧ ks.Nodup → Reps K mg H Z (kvs.map (·.2)) ds [] → Rep K mg H Z (.ref a) (.dct false ks ds) []
  | dctO {a kvs ks ds F} : H a = some (.dK kvs) → kvs.map (·.1) = ks ∧ ks.Nodup → Reps K mg H Z (kvs.map (·.2)) ds F → Rep K mg H Z (.ref a) (.dct true ks ds) (a :: F)
  | objF {a C dx fs c ns ds} : H a = some (.ins C dx fs) → Z a → mg c = some (.ref C) → fs.map (·.1) = ns → Reps K mg H Z (fs.map (·.2)) ds [] → NmU H (.ins C dx fs) → Rep K mg H Z (.ref a) (.obj false c ns ds) []
  | objO {a C dx fs c ns ds F} : H a = some (.ins C dx fs) → mg c = some (.ref C) → fs.map (·.1) = ns → Reps K mg H Z (fs.map (·.2)) ds F → NmU H (.ins C dx fs) → Rep K mg H Z (.ref a) (.obj true c ns ds) (a :: F)
  | exc {a C d fs c ns ds} : H a = some (ExV (.ref C) d a) → Z a → mg c = some (.ref C) → ((d = none ∧ fs = []) ∨ ∃ dd, d = some dd ∧ fs ≠ [] ∧ H dd = some (.xd fs) ∧ Z dd) → fs.map (·.1) = ns → Reps K mg H Z (fs.map (·.2)) ds [] → Rep K mg H Z (.ref a) (.exc c ns ds) []
  | hole {v} : Rep K mg H Z v .hole []
  | tab {P g q ps cs} : TabK K mg g P → H P = some (.tbl ps) → TriplesOk ps.toList → (∀ (pos : Pos) (cv : Value), codeAmong pos ps.toList = some cv → ∃ c ∈ cs, cv = .ref c) → (∀ c ∈ cs, H c = some (LamX.CodeO c q)) → Rep K mg H Z (.ref P) (.tab g q) (P :: cs)
inductive Reps (K : PySem.W.Frag) (mg : Str → Option Value) (H : Hp) (Z : Addr → Prop) : List V → List D → List Addr → Prop
  | nil : Reps K mg H Z [] [] []
  | cons {v vs d ds F G} : Rep K mg H Z v d F → Reps K mg H Z vs ds G → Reps K mg H Z (v :: vs) (d :: ds) (F ++ G)
end
section
variable {K : PySem.W.Frag} {mg : Str → Option Value} {H H' : Hp} {Z Z' : Addr → Prop}
theorem SqT.keep {a : Addr} {vs : List V} (h : SqT K H a vs) (k : ∀ a o, H a = some o → pers o = true → H' a = some o) : SqT K H' a vs := by
  (rcases h with (h | ⟨o, h⟩) | h)
  · exact .inl (.inl (k _ _ h rfl))
  · exact .inl (.inr ⟨o, k _ _ h rfl⟩)
  · exact .inr h
theorem Rd.keep {a : Addr} {u : HO} (h : Rd H a u) (k : ∀ o, H a = some o → H' a = some o) : Rd H' a u := by
  rcases h with h | ⟨o, h⟩
  · exact .inl (k _ h)
  · exact .inr ⟨o, k _ h⟩
theorem Rd.there {a : Addr} {u : HO} (h : Rd H a u) : ∃ o, H a = some o := by
  rcases h with h | ⟨o, h⟩
  · exact ⟨_, h⟩
  · exact ⟨_, h⟩
mutual
/-- what it leans on stands -/
theorem Rep.keep {v : V} {d : D} {F : List Addr} (r : Rep K mg H Z v d F) (k : ∀ a o, H a = some o → (Z a ∨ a ∈ F ∨ pers o = true) → H' a = some o) : Rep K mg H' Z v d F := by
  cases r with
  | non => exact .non
  | bl => exact .bl
  | int => exact .int
  | str => exact .str
  | ty => exact .ty
  | glo h => exact .glo h
  | tup h t => exact .tup (SqT.keep h fun a o e p => k a o e (.inr (.inr p))) (t.keep k)
  | scr h t => exact .scr (h.keep fun a o e p => k a o e (.inr (.inr p))) (t.keep k)
  | rawF h p z m => exact .rawF (Rd.keep h fun o e => k _ o e (.inl z)) p z (m.keep fun a o e q => k a o e (.inr (.inr q)))
  | rawO h p m => exact .rawO (k _ _ h (.inr (.inl List.mem_cons_self))) p (m.keep fun a o e q => k a o e (.inr (.inr q)))
  | lstF h z t => exact .lstF (k _ _ h (.inl z)) z (t.keep k)
  | lstO h t => exact .lstO (k _ _ h (.inr (.inl List.mem_cons_self))) (t.keep fun a o e q => k a o e (q.imp id fun q => q.imp (List.mem_cons_of_mem _) id))
  | dctF h z e t => exact .dctF (Rd.keep h fun o x => k _ o x (.inl z)) z e (t.keep k)
  | dctO h e t => exact .dctO (k _ _ h (.inr (.inl List.mem_cons_self))) e (t.keep fun a o e q => k a o e (q.imp id fun q => q.imp (List.mem_cons_of_mem _) id))
  | objF h z c e t m => exact .objF (k _ _ h (.inl z)) z c e (t.keep k) (m.keep fun a o e q => k a o e (.inr (.inr q)))
  | exc h z c e n t => exact .exc (k _ _ h (.inl z)) z c (e.imp id fun ⟨dd, q, nz, r, y⟩ => ⟨dd, q, nz, k _ _ r (.inl y), y⟩) n (t.keep k)
  | hole => exact .hole
  | tab b h i j l => exact .tab b (k _ _ h (.inr (.inl List.mem_cons_self))) i j fun c hc => k _ _ (l c hc) (.inr (.inl (List.mem_cons_of_mem _ hc)))
  | objO h c e t m => exact .objO (k _ _ h (.inr (.inl List.mem_cons_self))) c e (t.keep fun a o e q => k a o e (q.imp id fun q => q.imp (List.mem_cons_of_mem _) id)) (m.keep fun a o e q => k a o e (.inr (.inr q)))
theorem Reps.keep {vs : List V} {ds : List D} {F : List Addr} (r : Reps K mg H Z vs ds F) (k : ∀ a o, H a = some o → (Z a ∨ a ∈ F ∨ pers o = true) → H' a = some o) : Reps K mg H' Z vs ds F := by
  cases r with
  | nil => exact .nil
  | cons h t => exact .cons (h.keep fun a o e q => k a o e (q.imp id fun q => q.imp (List.mem_append_left _) id)) (t.keep fun a o e q => k a o e (q.imp id fun q => q.imp (List.mem_append_right _) id))
end
mutual
/-- another place for what is shared: all that is tracked there -/
theorem Rep.other {v : V} {d : D} {F : List Addr} (r : Rep K mg H Z v d F) (k : ∀ a o, H a = some o → Z a → Z' a) : Rep K mg H Z' v d F := by
  cases r with
  | non => exact .non
  | bl => exact .bl
  | int => exact .int
  | str => exact .str
  | ty => exact .ty
  | glo h => exact .glo h
  | tup h t => exact .tup h (t.other k)
  | scr h t => exact .scr h (t.other k)
  | rawF h p z m => exact .rawF h p (let ⟨o, x⟩ := Rd.there h; k _ o x z) m
  | rawO h p m => exact .rawO h p m
  | lstF h z t => exact .lstF h (k _ _ h z) (t.other k)
  | lstO h t => exact .lstO h (t.other k)
  | dctF h z e t => exact .dctF h (let ⟨o, x⟩ := Rd.there h; k _ o x z) e (t.other k)
  | dctO h e t => exact .dctO h e (t.other k)
  | objF h z c e t m => exact .objF h (k _ _ h z) c e (t.other k) m
  | exc h z c e n t => exact .exc h (k _ _ h z) c (e.imp id fun ⟨dd, q, nz, r, y⟩ => ⟨dd, q, nz, r, k _ _ r y⟩) n (t.other k)
  | hole => exact .hole
  | tab b h i j l => exact .tab b h i j l
  | objO h c e t m => exact .objO h c e (t.other k) m
theorem Reps.other {vs : List V} {ds : List D} {F : List Addr} (r : Reps K mg H Z vs ds F) (k : ∀ a o, H a = some o → Z a → Z' a) : Reps K mg H Z' vs ds F := by
  cases r with
  | nil => exact .nil
  | cons h t => exact .cons (h.other k) (t.other k)
end
mutual
/-- frozen -/
theorem Rep.fz {v : V} {d : D} {F : List Addr} (r : Rep K mg H Z v d F) (k : ∀ a, Z a → Z' a) (f : ∀ a ∈ F, Z' a) : Rep K mg H Z' v (DL.fz d) [] := by
  cases r with
  | non => exact .non
  | bl => exact .bl
  | int => exact .int
  | str => exact .str
  | ty => exact .ty
  | glo h => exact .glo h
  | tup h t => exact .tup h (t.fz k f)
  | scr h t => exact .scr h (t.fz k f)
  | rawF h p z m => exact .rawF h p (k _ z) m
  | rawO h p m => exact .rawF (.inl h) p (f _ List.mem_cons_self) m
  | lstF h z t => exact .lstF h (k _ z) (t.fz k f)
  | lstO h t => exact .lstF h (f _ List.mem_cons_self) (t.fz k fun a q => f a (List.mem_cons_of_mem _ q))
  | dctF h z e t => exact .dctF h (k _ z) e (t.fz k f)
  | dctO h e t => exact .dctF (.inl h) (f _ List.mem_cons_self) e (t.fz k fun a q => f a (List.mem_cons_of_mem _ q))
  | objF h z c e t m => exact .objF h (k _ z) c e (t.fz k f) m
  | exc h z c e n t => exact .exc h (k _ z) c (e.imp id fun ⟨dd, q, nz, r, y⟩ => ⟨dd, q, nz, r, k _ y⟩) n (t.fz k f)
  | hole => exact .hole
  | tab b h i j l => exact .hole
  | objO h c e t m => exact .objF h (f _ List.mem_cons_self) c e (t.fz k fun a q => f a (List.mem_cons_of_mem _ q)) m
theorem Reps.fz {vs : List V} {ds : List D} {F : List Addr} (r : Reps K mg H Z vs ds F) (k : ∀ a, Z a → Z' a) (f : ∀ a ∈ F, Z' a) : Reps K mg H Z' vs (DL.fzs ds) [] := by
  cases r with
  | nil => exact .nil
  | cons h t =>
    have := Reps.cons (h.fz k fun a q => f a (List.mem_append_left _ q)) (t.fz k fun a q => f a (List.mem_append_right _ q))
    exact this
end
mutual
theorem Rep.own_nil {v : V} {d : D} {F : List Addr} (r : Rep K mg H Z v d F) (h : isFz d = true) : F = [] := by
  cases r with
  | tup _ t => exact t.own_nil h
  | lstO _ t => simp [isFz] at h
  | dctO _ _ t => simp [isFz] at h
  | objO _ _ _ t _ => simp [isFz] at h
  | rawO _ _ _ => simp [isFz] at h
  | tab _ _ _ _ _ => simp [isFz] at h
  | _ => rfl
theorem Reps.own_nil {vs : List V} {ds : List D} {F : List Addr} (r : Reps K mg H Z vs ds F) (h : isFzs ds = true) : F = [] := by
  cases r with
  | nil => rfl
  | cons q t =>
    simp only [isFzs, Bool.and_eq_true] at h
    rw [q.own_nil h.1, t.own_nil h.2]; rfl
end
mutual
theorem Rep.noal {v : V} {d : D} {F : List Addr} (r : Rep K mg H Z v d F) (h : DL.noal d = true) : Rep K mg H Z' v d F := by
  cases r with
  | non => exact .non
  | bl => exact .bl
  | int => exact .int
  | str => exact .str
  | ty => exact .ty
  | glo q => exact .glo q
  | tup q t => exact .tup q (t.noal h)
  | scr q t => simp [DL.noal] at h
  | rawF q p z m => simp [DL.noal] at h
  | rawO q p m => exact .rawO q p m
  | lstF q z t => simp [DL.noal] at h
  | lstO q t => exact .lstO q (t.noal (by simpa [DL.noal] using h))
  | dctF q z e t => simp [DL.noal] at h
  | dctO q e t => exact .dctO q e (t.noal (by simpa [DL.noal] using h))
  | objF q z c e t m => simp [DL.noal] at h
  | exc q z c e n t => simp [DL.noal] at h
  | hole => simp [DL.noal] at h
  | tab b q i j l => exact .tab b q i j l
  | objO q c e t m => exact .objO q c e (t.noal (by simpa [DL.noal] using h)) m
theorem Reps.noal {vs : List V} {ds : List D} {F : List Addr} (r : Reps K mg H Z vs ds F) (h : DL.noals ds = true) : Reps K mg H Z' vs ds F := by
  cases r with
  | nil => exact .nil
  | cons q t =>
    simp only [DL.noals, Bool.and_eq_true] at h
    exact .cons (q.noal h.1) (t.noal h.2)
end
mutual
/-- what is its own is tracked, and may be changed -/
theorem Rep.own_at {v : V} {d : D} {F : List Addr} (r : Rep K mg H Z v d F) {a : Addr} (h : a ∈ F) : ∃ o, H a = some o ∧ pers o = false := by
  cases r with
  | tup q t => exact t.own_at h
  | lstO q t =>
    (rcases List.mem_cons.mp h with e | e)
    · subst e; exact ⟨_, q, rfl⟩
    · exact t.own_at e
  | dctO q e t =>
    (rcases List.mem_cons.mp h with e | e)
    · subst e; exact ⟨_, q, rfl⟩
    · exact t.own_at e
  | objO q c e t m =>
    (rcases List.mem_cons.mp h with e | e)
    · subst e; exact ⟨_, q, rfl⟩
    · exact t.own_at e
  | rawO q p m =>
    (rcases List.mem_cons.mp h with e | e)
    · subst e; exact ⟨_, q, p⟩
    · cases e
  | tab b q i j l =>
    (rcases List.mem_cons.mp h with e | e)
    · subst e; exact ⟨_, q, rfl⟩
    · exact ⟨_, l a e, rfl⟩
  | _ => cases h
theorem Reps.own_at {vs : List V} {ds : List D} {F : List Addr} (r : Reps K mg H Z vs ds F) {a : Addr} (h : a ∈ F) : ∃ o, H a = some o ∧ pers o = false := by
  cases r with
  | nil => cases h
  | cons q t =>
    rcases List.mem_append.mp h with e | e
    · exact q.own_at e
    · exact t.own_at e
end
theorem Reps.len {vs : List V} {ds : List D} {F : List Addr} (r : Reps K mg H Z vs ds F) : vs.length = ds.length := by
  induction vs generalizing ds F with
  | nil => cases r; rfl
  | cons v vs ih => cases r with
    | cons q t => simp [ih t]
end
abbrev PL := List (V × D)
/-- all pairs, their own parts one behind the other -/
inductive Rps (K : PySem.W.Frag) (mg : Str → Option Value) (H : Hp) (Z : Addr → Prop) : PL → List Addr → Prop
  | nil : Rps K mg H Z [] []
  | cons {v d P F G} : Rep K mg H Z v d F → Rps K mg H Z P G → Rps K mg H Z ((v, d) :: P) (F ++ G)
section
variable {K : PySem.W.Frag} {mg : Str → Option Value} {H H' : Hp} {Z Z' : Addr → Prop} {P Q : PL} {F G : List Addr}
theorem Rps.keep (r : Rps K mg H Z P F) (k : ∀ a o, H a = some o → (Z a ∨ a ∈ F ∨ pers o = true) → H' a = some o) : Rps K mg H' Z P F := by
  induction r with
  | nil => exact .nil
  | cons h _ ih => exact .cons (h.keep fun a o e q => k a o e (q.imp id fun q => q.imp (List.mem_append_left _) id)) (ih fun a o e q => k a o e (q.imp id fun q => q.imp (List.mem_append_right _) id))
theorem Rps.other (r : Rps K mg H Z P F) (k : ∀ a o, H a = some o → Z a → Z' a) : Rps K mg H Z' P F := by
  induction r with
  | nil => exact .nil
  | cons h _ ih => exact .cons (h.other k) ih
def fzP (P : PL) : PL := P.map fun p => (p.1, fz p.2)
theorem Rps.fz (r : Rps K mg H Z P F) (k : ∀ a, Z a → Z' a) (f : ∀ a ∈ F, Z' a) : Rps K mg H Z' (fzP P) [] := by
  induction r with
  | nil => exact .nil
  | cons h _ ih =>
    have := Rps.cons (h.fz k fun a q => f a (List.mem_append_left _ q)) (ih fun a q => f a (List.mem_append_right _ q))
    exact this
theorem Rps.own_at (r : Rps K mg H Z P F) {a : Addr} (h : a ∈ F) : ∃ o, H a = some o ∧ pers o = false := by
  induction r with
  | nil => cases h
  | cons q _ ih =>
    rcases List.mem_append.mp h with e | e
    · exact q.own_at e
    · exact ih e
theorem Rps.append (r : Rps K mg H Z P F) (q : Rps K mg H Z Q G) : Rps K mg H Z (P ++ Q) (F ++ G) := by
  induction r with
  | nil => exact q
  | cons h _ ih => rw [List.append_assoc]; exact .cons h ih
theorem Rps.split : ∀ {P : PL} {F : List Addr}, Rps K mg H Z (P ++ Q) F → ∃ F1 F2, F = F1 ++ F2 ∧ Rps K mg H Z P F1 ∧ Rps K mg H Z Q F2
  | [], F, r => ⟨[], F, rfl, .nil, r⟩
  | p :: P, F, r => by
    cases r with
    | cons h t =>
      obtain ⟨F1, F2, e, a, b⟩ := Rps.split t
      exact ⟨_, F2, by rw [e, List.append_assoc], .cons h a, b⟩
theorem Rps.perm (h : P.Perm Q) : ∀ {F : List Addr}, Rps K mg H Z P F → ∃ G, F.Perm G ∧ Rps K mg H Z Q G := by
  induction h with
  | nil => exact fun r => ⟨_, .refl _, r⟩
  | cons x _ ih =>
    intro F r
    cases r with
    | cons h t =>
      obtain ⟨G, p, t'⟩ := ih t
      exact ⟨_, p.append_left _, .cons h t'⟩
  | swap x y l =>
    intro F r
    cases r with
    | cons h t => cases t with
      | cons h' t' =>
        refine ⟨_, ?_, .cons h' (.cons h t')⟩
        (rw [← List.append_assoc, ← List.append_assoc])
        exact List.perm_append_comm.append_right _
  | trans _ _ ih1 ih2 =>
    intro F r
    obtain ⟨G, p, t⟩ := ih1 r
    obtain ⟨G', p', t'⟩ := ih2 t
    exact ⟨G', p.trans p', t'⟩
theorem Reps.zip {vs : List V} {ds : List D} {F : List Addr} (r : Reps K mg H Z vs ds F) : Rps K mg H Z (vs.zip ds) F := by
  induction vs generalizing ds F with
  | nil => cases r; exact .nil
  | cons v vs ih => cases r with
    | cons q t => exact .cons q (ih t)
theorem Rps.unzip : ∀ {vs : List V} {ds : List D} {F : List Addr}, vs.length = ds.length → Rps K mg H Z (vs.zip ds) F → Reps K mg H Z vs ds F
  | [], [], _, _, r => by cases r; exact .nil
  | [], _ :: _, _, h, _ => by simp at h
  | _ :: _, [], _, h, _ => by simp at h
  | v :: vs, d :: ds, _, h, r => by
    cases r with
    | cons q t => exact .cons q (Rps.unzip (by simpa using h) t)
end
structure Sp (K : PySem.W.Frag) (mg : Str → Option Value) (Z : Addr → Prop) (Hb H : Hp) (P : PL) : Prop where
  ex : ∃ F, Rps K mg H (fun a => Z a ∧ a ∉ F) P F ∧ F.Nodup ∧ ∀ a ∈ F, Hb a = none
  base : ∀ a o, Hb a = some o → H a = some o
  fresh : ∀ a, Hb a = none → Z a
section
variable {K : PySem.W.Frag} {mg : Str → Option Value} {H H' Hb : Hp} {Z Z' : Addr → Prop} {P Q : PL} {F : List Addr} {v w : V} {d t : D} {a p : Addr}
theorem Sp.perm (s : Sp K mg Z Hb H P) (h : P.Perm Q) : Sp K mg Z Hb H Q := by
  obtain ⟨⟨F, r, nd, hb⟩, b, fr⟩ := s
  obtain ⟨G, pm, r'⟩ := r.perm h
  exact ⟨⟨G, r'.other fun a o _ z => ⟨z.1, fun m => z.2 (pm.mem_iff.mpr m)⟩, pm.nodup_iff.mp nd, fun a m => hb a (pm.mem_iff.mpr m)⟩, b, fr⟩
theorem Sp.untr (s : Sp K mg Z Hb H P) (h : H p = Option.none) : Hb p = Option.none := by
  cases e : Hb p with
  | none => rfl
  | some o => rw [s.base _ _ e] at h; cases h
/-- a pair is given up -/
theorem Sp.drop (s : Sp K mg Z Hb H ((v, d) :: P)) : Sp K mg Z Hb H P := by
  obtain ⟨⟨F, r, nd, hb⟩, b, fr⟩ := s
  cases r with
  | cons h t =>
    exact ⟨⟨_, t.other fun a o _ z => ⟨z.1, fun m => z.2 (List.mem_append_right _ m)⟩, (List.nodup_append.mp nd).2.1, fun a m => hb a (List.mem_append_right _ m)⟩, b, fr⟩
theorem Sp.dropL : ∀ {L : PL}, Sp K mg Z Hb H (L ++ P) → Sp K mg Z Hb H P
  | [], s => s
  | _ :: _, s => Sp.dropL s.drop
/-- a pair that says nothing of the heap's own parts comes -/
theorem Sp.put (s : Sp K mg Z Hb H P) (h : ∀ Y, Rep K mg H Y v d []) : Sp K mg Z Hb H ((v, d) :: P) := by
  obtain ⟨⟨F, r, nd, hb⟩, b, fr⟩ := s
  exact ⟨⟨F, .cons (F := []) (h _) r, nd, hb⟩, b, fr⟩
/-- what is frozen may be had twice -/
theorem Sp.dup (s : Sp K mg Z Hb H ((v, d) :: P)) (h : isFz d = true) : Sp K mg Z Hb H ((v, d) :: (v, d) :: P) := by
  obtain ⟨⟨F, r, nd, hb⟩, b, fr⟩ := s
  refine ⟨⟨F, ?_, nd, hb⟩, b, fr⟩
  cases r with
  | cons q t =>
    have e := q.own_nil h
    subst e
    exact .cons (F := []) q (.cons (F := []) q t)
theorem Sp.freeze (s : Sp K mg Z Hb H ((v, d) :: P)) : Sp K mg Z Hb H ((v, DL.fz d) :: P) := by
  obtain ⟨⟨F, r, nd, hb⟩, b, fr⟩ := s
  cases r with
  | @cons _ _ _ F1 F2 q t =>
    have nd' := List.nodup_append.mp nd
    refine ⟨⟨F2, .cons (F := []) (q.fz (Z' := fun a => Z a ∧ a ∉ F2) (fun a z => ⟨z.1, fun m => z.2 (List.mem_append_right _ m)⟩) fun a m => ⟨fr a (hb a (List.mem_append_left _ m)), fun m' => nd'.2.2 a m a m' rfl⟩)
      (t.other fun a o _ z => ⟨z.1, fun m => z.2 (List.mem_append_right _ m)⟩), nd'.2.1, fun a m => hb a (List.mem_append_right _ m)⟩, b, fr⟩
/-- the heap grows -/
theorem Sp.grow (s : Sp K mg Z Hb H P) (k : ∀ a o, H a = some o → H' a = some o) : Sp K mg Z Hb H' P := by
  obtain ⟨⟨F, r, nd, hb⟩, b, fr⟩ := s
  exact ⟨⟨F, r.keep fun a o e _ => k a o e, nd, hb⟩, fun a o e => k a o (b a o e), fr⟩
theorem grow_upd {o : HO} (h : H p = none) : ∀ a u, H a = some u → upd H p o a = some u := fun a u e => by
  rw [upd_ne (ne_of_none e h)]; exact e
/-- the heap grows by one object, into which pairs at the head go; what they become -/
theorem Sp.new {o : HO} {v : V} {d : D} (s : Sp K mg Z Hb H (Q ++ P)) (hp : H p = none) (f : ∀ Y F, Rps K mg (upd H p o) Y Q F → ∃ F', Rep K mg (upd H p o) Y v d F' ∧ (F' = F ∨ F' = p :: F)) : Sp K mg Z Hb (upd H p o) ((v, d) :: P) := by
  have hbp := s.untr hp
  obtain ⟨⟨F, r, nd, hb⟩, b, fr⟩ := s
  have hpF : p ∉ F := fun m => by
    obtain ⟨o, e, _⟩ := r.own_at m
    rw [hp] at e; cases e
  have b' : ∀ a u, Hb a = some u → upd H p o a = some u := fun a u e => grow_upd hp a u (b a u e)
  have t1 : Rps K mg (upd H p o) (fun a => Z a ∧ a ∉ p :: F) (Q ++ P) F := by
    refine Rps.keep (r.other fun a u e z => ⟨z.1, fun m => ?_⟩) fun a u e _ => grow_upd hp a u e
    rcases List.mem_cons.mp m with m | m
    · subst m; rw [hp] at e; cases e
    · exact z.2 m
  obtain ⟨F1, F2, rfl, r1, r2⟩ := t1.split
  obtain ⟨F', q, e⟩ := f _ F1 r1
  rcases e with rfl | rfl
  · exact ⟨⟨F' ++ F2, (Rps.cons q r2).other fun a _ _ z => ⟨z.1, fun m => z.2 (List.mem_cons_of_mem _ m)⟩, nd, hb⟩, b', fr⟩
  · refine ⟨⟨(p :: F1) ++ F2, .cons q r2, List.nodup_cons.mpr ⟨hpF, nd⟩, fun a m => ?_⟩, b', fr⟩
    rcases List.mem_cons.mp m with m | m
    · subst m; exact hbp
    · exact hb a m
theorem Sp.newL {vs : List V} {ds : List D} (s : Sp K mg Z Hb H (vs.zip ds ++ P)) (hl : vs.length = ds.length) (hp : H p = none) : Sp K mg Z Hb (upd H p (.lst vs)) ((.ref p, .lst true ds) :: P) :=
  s.new hp fun Y F r => ⟨_, .lstO upd_same (r.unzip hl), .inr rfl⟩
theorem Sp.newT {vs : List V} {ds : List D} (s : Sp K mg Z Hb H (vs.zip ds ++ P)) (hl : vs.length = ds.length) (hp : H p = none) : Sp K mg Z Hb (upd H p (.tup vs)) ((.ref p, .tup ds) :: P) :=
  s.new hp fun Y F r => ⟨_, .tup (SqT.of upd_same) (r.unzip hl), .inl rfl⟩
theorem Sp.newK {kvs : List (Key × V)} {ks : List Key} {ds : List D} (s : Sp K mg Z Hb H ((kvs.map (·.2)).zip ds ++ P)) (hl : kvs.length = ds.length) (hk : kvs.map (·.1) = ks ∧ ks.Nodup) (hp : H p = none) : Sp K mg Z Hb (upd H p (.dK kvs)) ((.ref p, .dct true ks ds) :: P) :=
  s.new hp fun Y F r => ⟨_, .dctO upd_same hk (r.unzip (by simpa using hl)), .inr rfl⟩
/-- a tuple is opened -/
theorem Sp.openT {ds : List D} (s : Sp K mg Z Hb H ((v, .tup ds) :: P)) : ∃ a vs, v = .ref a ∧ SqT K H a vs ∧ vs.length = ds.length ∧ Sp K mg Z Hb H (vs.zip ds ++ P) := by
  obtain ⟨⟨F, r, nd, hb⟩, b, fr⟩ := s
  cases r with
  | cons q t => cases q with
    | tup h ts => exact ⟨_, _, rfl, h, ts.len, ⟨_, (ts.zip).append t, nd, hb⟩, b, fr⟩
/-- what is had of a frozen pair -/
theorem Sp.part (s : Sp K mg Z Hb H ((v, d) :: P)) (h : isFz d = true) {w : V} {t : D} (f : ∀ Y, Rep K mg H Y v d [] → Rep K mg H Y w t []) : Sp K mg Z Hb H ((w, t) :: (v, d) :: P) := by
  obtain ⟨⟨F, r, nd, hb⟩, b, fr⟩ := s
  refine ⟨⟨F, ?_, nd, hb⟩, b, fr⟩
  cases r with
  | cons q t' =>
    have e := q.own_nil h
    subst e
    exact .cons (F := []) (f _ q) (.cons (F := []) q t')
theorem Reps.get {Y : Addr → Prop} {vs : List V} {ds : List D} (r : Reps K mg H Y vs ds []) : ∀ {i : Nat} {d : D}, ds[i]? = some d → ∃ v, vs[i]? = some v ∧ Rep K mg H Y v d [] := by
  generalize e : ([] : List Addr) = G at r
  induction vs generalizing ds G with
  | nil => cases r; intro i d h; simp at h
  | cons v vs ih => cases r with
    | @cons _ _ d0 ds0 F1 F2 q t =>
      obtain ⟨e1, e2⟩ := List.append_eq_nil_iff.mp e.symm
      subst e1 e2
      intro i d h
      cases i with
      | zero =>
        have e : d0 = d := by simpa using h
        subst e
        exact ⟨v, rfl, q⟩
      | succ i => exact ih [] rfl t (i := i) (by simpa using h)
/-- the state of a def that is called, what is handed to it at the head -/
theorem Sp.lend (s : Sp K mg Z Hb H (Q ++ P)) : ∃ Z' Hc, Sp K mg Z' Hc H Q ∧ ∀ H' Q', Sp K mg Z' Hc H' Q' → Sp K mg Z Hb H' (Q' ++ P) := by
  obtain ⟨⟨F, r, nd, hb⟩, b, fr⟩ := s
  obtain ⟨F1, F2, rfl, r1, r2⟩ := r.split
  have nd' := List.nodup_append.mp nd
  have t1 : ∀ a, a ∈ F1 → ∃ o, H a = some o ∧ pers o = false := fun a m => r1.own_at m
  have t2 : ∀ a, a ∈ F2 → ∃ o, H a = some o ∧ pers o = false := fun a m => r2.own_at m
  classical
  refine ⟨fun a => Z a ∧ a ∉ F2, fun a => if a ∈ F1 then none else H a, ⟨⟨F1, r1.other fun a _ _ z => ⟨⟨z.1, fun m => z.2 (List.mem_append_right _ m)⟩, fun m => z.2 (List.mem_append_left _ m)⟩, nd'.1, fun a m => if_pos m⟩, fun a o e => ?_, fun a e => ?_⟩, fun H' Q' s' => ?_⟩
  · by_cases m : a ∈ F1
    · rw [if_pos m] at e; cases e
    · rw [if_neg m] at e; exact e
  · by_cases m : a ∈ F1
    · exact ⟨fr a (hb a (List.mem_append_left _ m)), fun m' => nd'.2.2 a m a m' rfl⟩
    · rw [if_neg m] at e
      refine ⟨fr a ?_, fun m' => ?_⟩
      · cases q : Hb a with
        | none => rfl
        | some o => rw [b a o q] at e; cases e
      · obtain ⟨o, q, _⟩ := t2 a m'
        rw [q] at e; cases e
  · obtain ⟨⟨G, q, ndG, hG⟩, bG, fG⟩ := s'
    -- what stands outside of F1 stands
    have st : ∀ a o, a ∉ F1 → H a = some o → H' a = some o := fun a o m e => bG a o (by rw [if_neg m]; exact e)
    have gF : ∀ a, a ∈ G → a ∈ F1 ∨ H a = none := fun a m => by
      have := hG a m
      by_cases m' : a ∈ F1
      · exact .inl m'
      · rw [if_neg m'] at this; exact .inr this
    have dis : ∀ a, a ∈ G → a ∉ F2 := fun a m m' => by
      rcases gF a m with h | h
      · exact nd'.2.2 a h a m' rfl
      · obtain ⟨o, e, _⟩ := t2 a m'
        rw [e] at h; cases h
    refine ⟨⟨G ++ F2, Rps.append (q.other fun a o _ z => ⟨z.1.1, fun m => ?_⟩) ?_, List.nodup_append.mpr ⟨ndG, nd'.2.1, fun a m c m' e => dis a m (e ▸ m')⟩, fun a m => ?_⟩, fun a o e => ?_, fr⟩
    · rcases List.mem_append.mp m with m | m
      · exact z.2 m
      · exact z.1.2 m
    · refine Rps.other (Z := fun a => (Z a ∧ a ∉ G ++ F2) ∧ a ∉ F1) (Rps.keep (r2.other fun a o e z => ⟨⟨z.1, fun m => ?_⟩, fun m => z.2 (List.mem_append_left _ m)⟩) fun a o e z => ?_) fun a o _ z => z.1
      · rcases List.mem_append.mp m with m | m
        · rcases gF a m with h | h
          · exact z.2 (List.mem_append_left _ h)
          · rw [e] at h; cases h
        · exact z.2 (List.mem_append_right _ m)
      · refine st a o (fun m => ?_) e
        obtain ⟨u, e', p'⟩ := t1 a m
        rw [e] at e'; cases e'
        rcases z with z | z | z
        · exact z.2 m
        · exact nd'.2.2 a m a z rfl
        · rw [z] at p'; cases p'
    · rcases List.mem_append.mp m with m | m
      · rcases gF a m with h | h
        · exact hb a (List.mem_append_left _ h)
        · cases q' : Hb a with
          | none => rfl
          | some o => rw [b a o q'] at h; cases h
      · exact hb a (List.mem_append_right _ m)
    · by_cases m : a ∈ F1
      · rw [hb a (List.mem_append_left _ m)] at e; cases e
      · exact st a o m (b a o e)
/-- the object of an own part changes: what it holds is put together anew out of pairs that stand -/
theorem Sp.mut {o' : HO} {a : Addr} {d d' : D} {R G : PL} (s : Sp K mg Z Hb H ((.ref a, d) :: P))
    (op : ∀ Y F, Rep K mg H Y (.ref a) d F → ∃ F' R', F = a :: F' ∧ Rps K mg H Y R' F' ∧ R = R')
    (pm : (R ++ P).Perm (Q ++ G)) (cl : ∀ Y F, Rps K mg (upd H a o') Y Q F → Rep K mg (upd H a o') Y (.ref a) d' (a :: F)) : Sp K mg Z Hb (upd H a o') ((.ref a, d') :: G) := by
  obtain ⟨⟨F, r, nd, hb⟩, b, fr⟩ := s
  cases r with
  | @cons _ _ _ F1 F2 q t =>
    obtain ⟨F', R', rfl, qs, rfl⟩ := op _ _ q
    have nda : a ∉ F' ++ F2 := (List.nodup_cons.mp (by simpa using nd)).1
    have ndr : (F' ++ F2).Nodup := (List.nodup_cons.mp (by simpa using nd)).2
    obtain ⟨o, ho, hp⟩ := q.own_at (a := a) List.mem_cons_self
    have all := qs.append t
    obtain ⟨F3, pF, all'⟩ := all.perm pm
    have all2 : Rps K mg (upd H a o') (fun b => Z b ∧ b ∉ a :: F3) (Q ++ G) F3 := by
      refine Rps.keep (all'.other (Z' := fun b => Z b ∧ b ∉ a :: F3) fun c u _ z => ⟨z.1, fun m => ?_⟩) fun c u e z => ?_
      · rcases List.mem_cons.mp m with m | m
        · subst m; exact z.2 (by simp)
        · have := pF.mem_iff.mpr m
          exact z.2 (by simpa using Or.inr (List.mem_append.mp this))
      · have ne : c ≠ a := fun e' => by
          subst e'
          rcases z with z | z | z
          · exact z.2 List.mem_cons_self
          · exact nda (pF.mem_iff.mpr z)
          · rw [ho] at e; cases e; rw [hp] at z; cases z
        rw [upd_ne ne]; exact e
    obtain ⟨F4, F5, rfl, r4, r5⟩ := all2.split
    have hba : Hb a = none := hb a (by simp)
    refine ⟨⟨(a :: F4) ++ F5, .cons (cl _ _ r4) r5, ?_, fun c m => ?_⟩, fun c u e => ?_, fr⟩
    · exact List.nodup_cons.mpr ⟨fun m => nda (pF.mem_iff.mpr m), pF.nodup_iff.mp ndr⟩
    · rcases List.mem_cons.mp m with m | m
      · subst m; exact hba
      · exact hb c (by
          have := pF.mem_iff.mpr m
          simpa using Or.inr (List.mem_append.mp this))
    · have ne : c ≠ a := fun e' => by subst e'; rw [hba] at e; cases e
      rw [upd_ne ne]; exact b c u e
theorem Sp.mutL {ds : List D} {a : Addr} (s : Sp K mg Z Hb H ((.ref a, .lst true ds) :: P)) : ∃ vs, H a = some (.lst vs) ∧ vs.length = ds.length ∧
    ∀ vs' ds' G, vs'.length = ds'.length → (vs.zip ds ++ P).Perm (vs'.zip ds' ++ G) → Sp K mg Z Hb (upd H a (.lst vs')) ((.ref a, .lst true ds') :: G) := by
  have s0 := s
  obtain ⟨⟨F, r, nd, hb⟩, b, fr⟩ := s
  cases r with
  | cons q t => cases q with
    | @lstO _ vs _ F h ts =>
      refine ⟨vs, h, ts.len, fun vs' ds' G hl pm => s0.mut (R := vs.zip ds) (Q := vs'.zip ds') (fun Y F q => ?_) pm fun Y F r => .lstO upd_same (r.unzip hl)⟩
      cases q with
      | lstO h' t' =>
        have e := h.symm.trans h'
        cases e
        exact ⟨_, _, rfl, t'.zip, rfl⟩
theorem Sp.mutK {ks : List Key} {ds : List D} {a : Addr} (s : Sp K mg Z Hb H ((.ref a, .dct true ks ds) :: P)) : ∃ kvs, H a = some (.dK kvs) ∧ (kvs.map (·.1) = ks ∧ ks.Nodup) ∧ kvs.length = ds.length ∧
    ∀ kvs' ds' G, kvs'.length = ds'.length → (kvs'.map (·.1)).Nodup → ((kvs.map (·.2)).zip ds ++ P).Perm ((kvs'.map (·.2)).zip ds' ++ G) → Sp K mg Z Hb (upd H a (.dK kvs')) ((.ref a, .dct true (kvs'.map (·.1)) ds') :: G) := by
  have s0 := s
  obtain ⟨⟨F, r, nd, hb⟩, b, fr⟩ := s
  cases r with
  | cons q t => cases q with
    | @dctO _ kvs _ _ F h e ts =>
      refine ⟨kvs, h, e, by simpa using ts.len, fun vs' ds' G hl hnd pm => s0.mut (R := (kvs.map (·.2)).zip ds) (Q := (vs'.map (·.2)).zip ds') (fun Y F q => ?_) pm fun Y F r => .dctO upd_same ⟨rfl, hnd⟩ (r.unzip (by simpa using hl))⟩
      cases q with
      | dctO h' e' t' =>
        have e := h.symm.trans h'
        cases e
        exact ⟨_, _, rfl, t'.zip, rfl⟩
/-- an expression is reckoned over frozen pairs A; then A stands as it stood, if what came shares nothing; else frozen -/
theorem Sp.pure {A : PL} (s : Sp K mg Z Hb H (A ++ P)) : ∃ Z', Sp K mg Z' H H (fzP A) ∧ ∀ H' v d B, Sp K mg Z' H H' ((v, d) :: B) →
    (noal d = true → Sp K mg Z Hb H' ((v, d) :: (A ++ P))) ∧ Sp K mg Z Hb H' ((v, d) :: (fzP A ++ P)) := by
  have s0 := s
  obtain ⟨⟨F, r, nd, hb⟩, b, fr⟩ := s
  obtain ⟨F1, F2, rfl, r1, r2⟩ := r.split
  have nd' := List.nodup_append.mp nd
  have t2 : ∀ a, a ∈ F2 → ∃ o, H a = some o ∧ pers o = false := fun a m => r2.own_at m
  have untr : ∀ a, H a = none → Hb a = none := fun a e => by
    cases q : Hb a with
    | none => rfl
    | some o => rw [b a o q] at e; cases e
  have f1 : Rps K mg H (fun a => Z a ∧ a ∉ F2) (fzP A) [] := r1.fz (fun a z => ⟨z.1, fun m => z.2 (List.mem_append_right _ m)⟩) fun a m => ⟨fr a (hb a (List.mem_append_left _ m)), fun m' => nd'.2.2 a m a m' rfl⟩
  refine ⟨fun a => Z a ∧ a ∉ F2, ⟨⟨[], f1.other fun a _ _ z => ⟨z, by simp⟩, List.nodup_nil, fun a m => by cases m⟩, fun _ _ e => e, fun a e => ⟨fr a (untr a e), fun m => ?_⟩⟩, fun H' v d B s' => ?_⟩
  · obtain ⟨o, q, _⟩ := t2 a m
    rw [q] at e; cases e
  · obtain ⟨⟨G, q, ndG, hG⟩, bG, fG⟩ := s'
    cases q with
    | @cons _ _ _ Fd FB q tB =>
      have ndd := (List.nodup_append.mp ndG).1
      have hd : ∀ a ∈ Fd, H a = none := fun a m => hG a (List.mem_append_left _ m)
      have notd : ∀ a o, H a = some o → a ∉ Fd := fun a o e m => by rw [hd a m] at e; cases e
      have b' : ∀ a o, Hb a = some o → H' a = some o := fun a o e => bG a o (b a o e)
      refine ⟨fun hn => ⟨⟨Fd ++ (F1 ++ F2), .cons (q.noal hn) (Rps.keep (r.other fun a o e z => ⟨z.1, fun m => ?_⟩) fun a o e _ => bG a o e), ?_, fun a m => ?_⟩, b', fr⟩,
        ⟨⟨Fd ++ F2, .cons (q.other fun a o _ z => ⟨z.1.1, fun m => ?_⟩) (Rps.append (F := []) (Rps.keep (f1.other (Z' := fun a => Z a ∧ a ∉ Fd ++ F2) fun a o e z => ⟨z.1, fun m => ?_⟩) fun a o e _ => bG a o e) (Rps.keep (r2.other fun a o e z => ⟨z.1, fun m => ?_⟩) fun a o e _ => bG a o e)), ?_, fun a m => ?_⟩, b', fr⟩⟩
      · rcases List.mem_append.mp m with m | m
        · exact notd a o e m
        · exact z.2 m
      · exact List.nodup_append.mpr ⟨ndd, nd, fun a m c m' e => by
          subst e
          have : ∃ o, H a = some o := by
            rcases List.mem_append.mp m' with m' | m'
            · obtain ⟨o, q, _⟩ := r1.own_at m'; exact ⟨o, q⟩
            · obtain ⟨o, q, _⟩ := t2 a m'; exact ⟨o, q⟩
          obtain ⟨o, e⟩ := this
          exact notd a o e m⟩
      · rcases List.mem_append.mp m with m | m
        · exact untr a (hd a m)
        · exact hb a m
      · rcases List.mem_append.mp m with m | m
        · exact z.2 (List.mem_append_left _ m)
        · exact z.1.2 m
      · rcases List.mem_append.mp m with m | m
        · exact notd a o e m
        · exact z.2 m
      · rcases List.mem_append.mp m with m | m
        · exact notd a o e m
        · exact z.2 (List.mem_append_right _ m)
      · exact List.nodup_append.mpr ⟨ndd, nd'.2.1, fun a m c m' e => by
          subst e
          obtain ⟨o, q, _⟩ := t2 a m'
          exact notd a o q m⟩
      · rcases List.mem_append.mp m with m | m
        · exact untr a (hd a m)
        · exact hb a (List.mem_append_right _ m)
abbrev Env := List (Option D)
def prs : L2.St → Env → PL
  | some v :: σ, some d :: δ => (v, d) :: prs σ δ
  | _ :: σ, _ :: δ => prs σ δ
  | _, _ => []
/-- each slot that has a tree has a value -/
def Dom (σ : L2.St) (δ : Env) : Prop := σ.length = δ.length ∧ ∀ (i : Nat) (d : D), δ[i]? = some (some d) → ∃ v, σ[i]? = some (some v)
theorem prs_none : ∀ {σ : L2.St} {δ : Env} {i : Nat} (x : Option V), prs (σ.set i x) (δ.set i none) = prs σ (δ.set i none)
  | [], δ, i, x => by simp [prs]
  | s :: σ, [], i, x => by cases i <;> cases x <;> cases s <;> simp [prs]
  | s :: σ, d :: δ, 0, x => by cases x <;> cases s <;> simp [prs]
  | s :: σ, d :: δ, i + 1, x => by cases s <;> cases d <;> simp [prs, prs_none x]
theorem prs_get : ∀ {σ : L2.St} {δ : Env} {i : Nat} {v : V} {d : D}, σ[i]? = some (some v) → δ[i]? = some (some d) → (prs σ δ).Perm ((v, d) :: prs σ (δ.set i none))
  | [], _, i, v, d, h, _ => by simp at h
  | _ :: _, [], i, v, d, _, h => by simp at h
  | s :: σ, e :: δ, 0, v, d, h, h' => by
    have h1 : s = some v := by simpa using h
    have h2 : e = some d := by simpa using h'
    subst h1 h2
    simp [prs]
  | s :: σ, e :: δ, i + 1, v, d, h, h' => by
    have ih := prs_get (σ := σ) (δ := δ) (i := i) (v := v) (d := d) (by simpa using h) (by simpa using h')
    cases s with
    | none => cases e <;> simpa [prs] using ih
    | some x => cases e with
      | none => simpa [prs] using ih
      | some y =>
        simp only [List.set_cons_succ, prs]
        exact (ih.cons _).trans (.swap _ _ _)
theorem prs_set {σ : L2.St} {δ : Env} {i : Nat} {v : V} {d : D} (h : i < σ.length) (hl : σ.length = δ.length) : (prs (σ.set i (some v)) (δ.set i (some d))).Perm ((v, d) :: prs σ (δ.set i none)) := by
  have p := prs_get (σ := σ.set i (some v)) (δ := δ.set i (some d)) (i := i) (v := v) (d := d) (by simp [h]) (by rw [List.getElem?_set_self (by omega)])
  rw [List.set_set, prs_none] at p
  exact p
theorem Dom.set {σ : L2.St} {δ : Env} (h : Dom σ δ) (i : Nat) (v : V) (d : Option D) : Dom (σ.set i (some v)) (δ.set i d) := by
  refine ⟨by simp [h.1], fun j e q => ?_⟩
  rw [List.getElem?_set] at q ⊢
  by_cases hij : i = j
  · subst hij
    rw [if_pos rfl] at q ⊢
    by_cases hl : i < δ.length
    · rw [if_pos (by rw [h.1]; exact hl)]; exact ⟨v, rfl⟩
    · rw [if_neg hl] at q; cases q
  · rw [if_neg hij] at q ⊢
    exact h.2 j e q
/-- a slot's tree changes, or goes -/
theorem Dom.setD {σ : L2.St} {δ : Env} (h : Dom σ δ) {i : Nat} {d0 : D} (hi : δ[i]? = some (some d0)) (d : Option D) : Dom σ (δ.set i d) := by
  refine ⟨by simp [h.1], fun j e q => ?_⟩
  rw [List.getElem?_set] at q
  by_cases hij : i = j
  · subst hij; exact h.2 _ _ hi
  · rw [if_neg hij] at q
    exact h.2 j e q
theorem Dom.drop {σ : L2.St} {δ : Env} (h : Dom σ δ) (i : Nat) : Dom σ (δ.set i none) := by
  refine ⟨by simp [h.1], fun j e q => ?_⟩
  rw [List.getElem?_set] at q
  by_cases hij : i = j
  · subst hij
    rw [if_pos rfl] at q
    by_cases hl : i < δ.length
    · rw [if_pos hl] at q; cases q
    · rw [if_neg hl] at q; cases q
  · rw [if_neg hij] at q
    exact h.2 j e q
end
end DL
set_option Elab.async false
set_option linter.all false
set_option maxRecDepth 100000
set_option maxHeartbeats 4000001
namespace DL
open PySem L2
section
variable (X : Cx)
def wE (e : Expr) : TE := fun σ H Q => ∀ pins s, Inv X pins σ H s → wpAny (model X.prog X.w) X.A (eval e X.env) (EP X pins σ Q) X.xe s
def wT (e : Expr) : TT := fun σ H Q => ∀ pins s, Inv X pins σ H s → wpAny (model X.prog X.w) X.A (isTrue e X.env (eval e X.env)) (TP X pins σ Q) X.xe s
def wW (e : Expr) : TT := fun σ H Q => ∀ whole pins s, Inv X pins σ H s → wpAny (model X.prog X.w) X.A (isTrue e X.env whole) (TP X pins σ Q) X.xe s
def wA (es : List Expr) : TA := fun σ H Q => ∀ pos pins s, Inv X pins σ H s → wpAny (model X.prog X.w) X.A (spliced (backTo pos (starEach es X.env))) (AP X pins σ Q) X.xe s
def wS (st : Stmt) : TS := fun D σ H => ∀ pins s, Inv X pins σ H s → wpAny (model X.prog X.w) X.A (exec st X.env) (SP X pins D) X.xe s
def wSs (st : List Stmt) : TS := fun D σ H => ∀ pins s, Inv X pins σ H s → wpAny (model X.prog X.w) X.A (execs st X.env) (SP X pins D) X.xe s
def wG (tg : Expr) : TG := fun v σ H Q => ∀ pins s u, Inv X pins σ H s → RelV v u → wpAny (model X.prog X.w) X.A (assign tg X.env u) (fun _ s' => ∃ σ' H', Inv X pins σ' H' s' ∧ Q σ' H') X.xe s
def wGs (ts : List Expr) : TGs := fun vs σ H Q => ∀ pins s us, Inv X pins σ H s → Vals vs us → wpAny (model X.prog X.w) X.A (assignInOrder ((assignEach ts X.env).map (·.2)) us) (fun _ s' => ∃ σ' H', Inv X pins σ' H' s' ∧ Q σ' H') X.xe s
def wI (tg iter : Expr) : TI := fun σ H R => ∀ pins s, Inv X pins σ H s → wpAny (model X.prog X.w) X.A (eval iter X.env) (fun v s1 => wpAny (model X.prog X.w) X.A (pyIter v) (PIE X pins σ tg R) X.xe s1) X.xe s
def wR (f : Value → Value → Sem Value) : R2 := fun x y H Q => ∀ pins s σ u v, Inv X pins σ H s → RelV x u → RelV y v → wpAny (model X.prog X.w) X.A (f u v) (EP X pins σ Q) X.xe s
def wC (f : Value) : List V → Hp → VK → Prop := fun xs H Q => ∀ pins s σ us, Inv X pins σ H s → Vals xs us → wpAny (model X.prog X.w) X.A (call f us) (EP X pins σ Q) X.xe s
end
section
variable {X : Cx} {e : Expr} {es : List Expr} {st : Stmt} {sts : List Stmt} {tg iter : Expr}
theorem pe_w : PE X e (wE X e) := ⟨fun pins s σ H Q I h => h pins s I⟩
theorem pt_w : PT X e (wT X e) := ⟨fun pins s σ H Q I h => h pins s I⟩
theorem pw_w : PW X e (wW X e) := ⟨fun w pins s σ H Q I h => h w pins s I⟩
theorem pa_w : PA X es (wA X es) := ⟨fun pos pins s σ H Q I h => h pos pins s I⟩
theorem ps_w : PS X st (wS X st) := ⟨fun pins s σ H Q I h => h pins s I⟩
theorem pss_w : PSs X sts (wSs X sts) := ⟨fun pins s σ H Q I h => h pins s I⟩
theorem pg_w : PG X tg (wG X tg) := ⟨fun pins s σ H v u Q I r h => h pins s u I r⟩
theorem pgs_w : PGs X es (wGs X es) := ⟨fun pins s σ H v u Q I r h => h pins s u I r⟩
theorem pi_w : PI X tg iter (wI X tg iter) := ⟨fun pins s σ H R I h => h pins s I⟩
theorem opr_w {f : Value → Value → Sem Value} : OpR X f (wR X f) := fun pins s σ H x y v u Q I r1 r2 h => h pins s σ v u I r1 r2
theorem callr_w {f : Value} : CallR X f (wC X f) := fun pins s σ H xs us Q I r h => h pins s σ us I r
theorem wE_of {t : TE} (h : PE X e t) {σ : L2.St} {H : Hp} {Q : VK} (q : t σ H Q) : wE X e σ H Q := fun pins s I => h.run pins s σ H Q I q
theorem wT_of {t : TT} (h : PT X e t) {σ : L2.St} {H : Hp} {Q : Bool → Hp → Prop} (q : t σ H Q) : wT X e σ H Q := fun pins s I => h.run pins s σ H Q I q
theorem wW_of {t : TT} (h : PW X e t) {σ : L2.St} {H : Hp} {Q : Bool → Hp → Prop} (q : t σ H Q) : wW X e σ H Q := fun w pins s I => h.run w pins s σ H Q I q
theorem wA_of {t : TA} (h : PA X es t) {σ : L2.St} {H : Hp} {Q : List V → Hp → Prop} (q : t σ H Q) : wA X es σ H Q := fun pos pins s I => h.run pos pins s σ H Q I q
theorem wS_of {t : TS} (h : PS X st t) {σ : L2.St} {H : Hp} {D : Ends} (q : t D σ H) : wS X st D σ H := fun pins s I => h.run pins s σ H D I q
theorem wSs_of {t : TS} (h : PSs X sts t) {σ : L2.St} {H : Hp} {D : Ends} (q : t D σ H) : wSs X sts D σ H := fun pins s I => h.run pins s σ H D I q
theorem wG_of {t : TG} (h : PG X tg t) {v : V} {σ : L2.St} {H : Hp} {Q : L2.St → Hp → Prop} (q : t v σ H Q) : wG X tg v σ H Q := fun pins s u I r => h.run pins s σ H v u Q I r q
theorem wGs_of {t : TGs} (h : PGs X es t) {vs : List V} {σ : L2.St} {H : Hp} {Q : L2.St → Hp → Prop} (q : t vs σ H Q) : wGs X es vs σ H Q := fun pins s u I r => h.run pins s σ H vs u Q I r q
theorem wI_of {t : TI} (h : PI X tg iter t) {σ : L2.St} {H : Hp} {R : It → Hp → Prop} (q : t σ H R) : wI X tg iter σ H R := fun pins s I => h.run pins s σ H R I q
theorem wR_of {f : Value → Value → Sem Value} {r : R2} (h : OpR X f r) {x y : V} {H : Hp} {Q : VK} (q : r x y H Q) : wR X f x y H Q := fun pins s σ u v I r1 r2 => h pins s σ H x y u v Q I r1 r2 q
theorem wC_of {f : Value} {r : List V → Hp → VK → Prop} (h : CallR X f r) {xs : List V} {H : Hp} {Q : VK} (q : r xs H Q) : wC X f xs H Q := fun pins s σ us I r1 => h pins s σ H xs us Q I r1 q
end
/-- the state: temporary pairs L, and the slots -/
structure Sq (X : Cx) (Z : Addr → Prop) (Hb H : Hp) (σ : L2.St) (δ : Env) (L : PL) : Prop where
  sp : Sp X.K X.mg Z Hb H (L ++ prs σ δ)
  dom : Dom σ δ
abbrev ME := Env → Option (D × Env)
abbrev MT := Env → Option (Bool × Env)
def IG (X : Cx) (e : Expr) (m : ME) : Prop := ∀ {Z : Addr → Prop} {Hb H : Hp} {σ : L2.St} {δ : Env} {L : PL} {d : D} {δ' : Env}, Sq X Z Hb H σ δ L → m δ = some (d, δ') →
  ∀ Q : VK, (∀ v H', Sq X Z Hb H' σ δ' ((v, d) :: L) → Q v H') → wE X e σ H Q
def IT (X : Cx) (e : Expr) (m : MT) : Prop := ∀ {Z : Addr → Prop} {Hb H : Hp} {σ : L2.St} {δ : Env} {L : PL} {b : Bool} {δ' : Env}, Sq X Z Hb H σ δ L → m δ = some (b, δ') →
  ∀ Q : Bool → Hp → Prop, (∀ H', Sq X Z Hb H' σ δ' L → Q b H') → wT X e σ H Q
def IW (X : Cx) (e : Expr) (m : MT) : Prop := ∀ {Z : Addr → Prop} {Hb H : Hp} {σ : L2.St} {δ : Env} {L : PL} {b : Bool} {δ' : Env}, Sq X Z Hb H σ δ L → m δ = some (b, δ') →
  ∀ Q : Bool → Hp → Prop, (∀ H', Sq X Z Hb H' σ δ' L → Q b H') → wW X e σ H Q
section
variable {X : Cx} {Z : Addr → Prop} {Hb H H' : Hp} {σ : L2.St} {δ δ' : Env} {L : PL} {v : V} {d : D}
theorem Sq.put (s : Sq X Z Hb H σ δ L) (h : ∀ Y, Rep X.K X.mg H Y v d []) : Sq X Z Hb H σ δ ((v, d) :: L) := ⟨s.sp.put h, s.dom⟩
theorem Sq.drop (s : Sq X Z Hb H σ δ ((v, d) :: L)) : Sq X Z Hb H σ δ L := ⟨Sp.drop s.sp, s.dom⟩
end
def mVar (i : Nat) : ME := fun δ => match δ[i]? with
  | some (some d) => if isFz d then some (d, δ) else some (fz d, δ.set i (some (fz d)))
  | _ => none
/-- a name that is not asked any more -/
def mMv (i : Nat) : ME := fun δ => match δ[i]? with
  | some (some d) => some (d, δ.set i none)
  | _ => none
def mC (d : D) : ME := fun δ => some (d, δ)
section
variable {X : Cx}
theorem prs_back {σ : L2.St} {δ : Env} {i : Nat} {v : V} {d d' : D} (h : σ[i]? = some (some v)) (h' : δ[i]? = some (some d)) : (prs σ (δ.set i (some d'))).Perm ((v, d') :: prs σ (δ.set i none)) := by
  have p := prs_get (σ := σ) (δ := δ.set i (some d')) (i := i) (v := v) (d := d') h (by
    rw [List.getElem?_set_self]
    exact (List.getElem?_eq_some_iff.mp h').1)
  rw [List.set_set] at p
  exact p
theorem ig_var {x : Str} {pos : Pos} (i : Nat) (hp : PE X (.Name x pos) (tVar i)) : IG X (.Name x pos) (mVar i) := by
  intro Z Hb H σ δ L d δ' s e Q q
  unfold mVar at e
  split at e
  · rename_i d0 hd
    obtain ⟨v, hv⟩ := s.dom.2 i d0 hd
    refine wE_of hp ⟨v, hv, q v H ?_⟩
    have pm := prs_get hv hd
    have s1 : Sp X.K X.mg Z Hb H ((v, d0) :: (L ++ prs σ (δ.set i none))) := s.sp.perm ((pm.append_left L).trans List.perm_middle)
    split at e
    · rename_i hf
      cases e
      exact ⟨(s1.dup hf).perm (((pm.append_left L).trans List.perm_middle).symm.cons _), s.dom⟩
    · cases e
      have s2 := s1.freeze.dup (isFz_fz d0)
      refine ⟨s2.perm (((((prs_back hv hd).append_left L).trans List.perm_middle).symm).cons _), s.dom.setD hd _⟩
  · cases e
theorem ig_mv {x : Str} {pos : Pos} (i : Nat) (hp : PE X (.Name x pos) (tVar i)) : IG X (.Name x pos) (mMv i) := by
  intro Z Hb H σ δ L d δ' s e Q q
  unfold mMv at e
  split at e
  · rename_i d0 hd
    obtain ⟨v, hv⟩ := s.dom.2 i d0 hd
    cases e
    exact wE_of hp ⟨v, hv, q v H ⟨s.sp.perm (((prs_get hv hd).append_left L).trans List.perm_middle), s.dom.drop i⟩⟩
  · cases e
/-- a constant of the text -/
theorem ig_c {e : Expr} {v : V} {d : D} (hp : PE X e (tC v)) (r : ∀ H Y, Rep X.K X.mg H Y v d []) : IG X e (mC d) := by
  intro Z Hb H σ δ L d δ' s e Q q
  cases e
  exact wE_of hp (q v H (s.put (r H)))
theorem ig_int {i j pos} : IG X (.Constant (.int i) j pos) (mC (.int i)) := ig_c pe_int fun _ _ => .int
theorem ig_bl {i j pos} : IG X (.Constant (.bool i) j pos) (mC (.bl i)) := ig_c pe_bl fun _ _ => .bl
theorem ig_non {j pos} : IG X (.Constant .none j pos) (mC .non) := ig_c pe_non fun _ _ => .non
theorem ig_str {i j pos} : IG X (.Constant (.str i) j pos) (mC (.str i)) := ig_c pe_str fun _ _ => .str
end
def keepM : List Bool → Env → Env
  | true :: m, d :: δ => d :: keepM m δ
  | false :: m, _ :: δ => none :: keepM m δ
  | [], _ :: δ => none :: keepM [] δ
  | _, [] => []
def restM : List Bool → Env → Env
  | true :: m, _ :: δ => none :: restM m δ
  | false :: m, d :: δ => d :: restM m δ
  | [], δ => δ
  | _, [] => []
def fzM : List Bool → Env → Env
  | true :: m, d :: δ => d.map fz :: fzM m δ
  | false :: m, d :: δ => d :: fzM m δ
  | [], δ => δ
  | _, [] => []
def fzE (δ : Env) : Env := δ.map fun d => d.map fz
def pur (m : List Bool) (f : ME) : ME := fun δ => match f (fzE (keepM m δ)) with
  | some (d, _) => some (d, if noal d then δ else fzM m δ)
  | none => none
def purT (m : List Bool) (f : MT) : MT := fun δ => match f (fzE (keepM m δ)) with
  | some (b, _) => some (b, δ)
  | none => none
theorem prs_nil {σ : L2.St} : prs σ [] = [] := by cases σ with
  | nil => rfl
  | cons s _ => cases s <;> rfl
theorem prs_nones : ∀ {σ : L2.St} {δ : Env}, prs σ (keepM [] δ) = []
  | [], δ => by cases δ <;> rfl
  | s :: σ, [] => by cases s <;> rfl
  | s :: σ, d :: δ => by cases s <;> simp [keepM, prs, prs_nones]
theorem prs_split : ∀ (m : List Bool) (σ : L2.St) (δ : Env), (prs σ δ).Perm (prs σ (keepM m δ) ++ prs σ (restM m δ))
  | m, [], δ => by simp [prs]
  | m, s :: σ, [] => by cases m <;> simp [keepM, restM, prs_nil]
  | [], s :: σ, d :: δ => by
    rw [prs_nones]
    simp [restM]
  | true :: m, s :: σ, d :: δ => by
    have ih := prs_split m σ δ
    cases s <;> cases d <;> simp [keepM, restM, prs, ih]
  | false :: m, s :: σ, d :: δ => by
    have ih := prs_split m σ δ
    cases s with
    | none => cases d <;> simpa [keepM, restM, prs] using ih
    | some v => cases d with
      | none => simpa [keepM, restM, prs] using ih
      | some y =>
        simp only [keepM, restM, prs]
        exact (ih.cons _).trans List.perm_middle.symm
theorem prs_fzE : ∀ (σ : L2.St) (δ : Env), prs σ (fzE δ) = fzP (prs σ δ)
  | [], δ => by cases δ <;> rfl
  | s :: σ, [] => by rw [fzE, List.map_nil, prs_nil]; rfl
  | s :: σ, d :: δ => by
    have ih := prs_fzE σ δ
    unfold fzE at ih
    cases s <;> cases d <;> simp [fzE, prs, fzP, ih]
theorem keepM_get : ∀ (m : List Bool) (δ : Env) (i : Nat) (d : D), (keepM m δ)[i]? = some (some d) → δ[i]? = some (some d)
  | m, [], i, d, h => by cases m with
    | nil => simp [keepM] at h
    | cons b m => cases b <;> simp [keepM] at h
  | [], x :: δ, 0, d, h => by simp [keepM] at h
  | [], x :: δ, i + 1, d, h => by simpa using keepM_get [] δ i d (by simpa [keepM] using h)
  | true :: m, x :: δ, 0, d, h => by simpa [keepM] using h
  | true :: m, x :: δ, i + 1, d, h => by simpa using keepM_get m δ i d (by simpa [keepM] using h)
  | false :: m, x :: δ, 0, d, h => by simp [keepM] at h
  | false :: m, x :: δ, i + 1, d, h => by simpa using keepM_get m δ i d (by simpa [keepM] using h)
theorem keepM_len : ∀ (m : List Bool) (δ : Env), (keepM m δ).length = δ.length
  | m, [] => by cases m with
    | nil => rfl
    | cons b m => cases b <;> rfl
  | [], x :: δ => by simp [keepM, keepM_len [] δ]
  | true :: m, x :: δ => by simp [keepM, keepM_len m δ]
  | false :: m, x :: δ => by simp [keepM, keepM_len m δ]
theorem Dom.keepM {σ : L2.St} {δ : Env} (h : Dom σ δ) (m : List Bool) : Dom σ (fzE (keepM m δ)) := by
  refine ⟨by simp [fzE, keepM_len, h.1], fun i d q => ?_⟩
  unfold fzE at q
  rw [List.getElem?_map] at q
  cases e : (DL.keepM m δ)[i]? with
  | none => rw [e] at q; cases q
  | some x => cases x with
    | none => rw [e] at q; cases q
    | some y => exact h.2 i y (keepM_get m δ i y e)
section
variable {X : Cx} {e : Expr}
theorem it_pur (m : List Bool) {f : MT} (h : IT X e f) : IT X e (purT m f) := by
  intro Z Hb H σ δ L d δ' s e' Q q
  unfold purT at e'
  split at e'
  · rename_i d0 δ0 hf
    cases e'
    have s1 : Sp X.K X.mg Z Hb H (prs σ (keepM m δ) ++ (prs σ (restM m δ) ++ L)) := s.sp.perm (((prs_split m σ δ).append_left L).trans (by
      rw [← List.append_assoc (prs σ (keepM m δ))]
      exact List.perm_append_comm))
    obtain ⟨Z', sp, back⟩ := s1.pure
    have sq : Sq X Z' H H σ (fzE (keepM m δ)) [] := ⟨by rw [prs_fzE]; exact sp, s.dom.keepM m⟩
    refine h sq hf Q fun H' s' => q H' ?_
    have s2 : Sp X.K X.mg Z' H H' ((V.non, D.non) :: prs σ _) := s'.sp.put fun _ => .non
    have b1 := ((back H' _ _ _ s2).1 rfl).drop
    refine ⟨b1.perm ?_, s.dom⟩
    refine List.Perm.trans ?_ ((prs_split m σ δ).symm.append_left L)
    rw [← List.append_assoc]
    exact List.perm_append_comm
  · cases e'
end
end DL
set_option Elab.async false
set_option linter.all false
set_option maxRecDepth 100000
set_option maxHeartbeats 4000001
namespace DL
open PySem L2
section
variable {K : PySem.W.Frag} {mg : Str → Option Value} {H Hb : Hp} {Z : Addr → Prop} {P : PL} {v : V}
theorem Sp.head {d : D} (s : Sp K mg Z Hb H ((v, d) :: P)) : ∃ Y F, Rep K mg H Y v d F := by
  obtain ⟨⟨F, r, _, _⟩, _, _⟩ := s
  cases r with
  | cons q t => exact ⟨_, _, q⟩
theorem Sp.int {i : Int} (s : Sp K mg Z Hb H ((v, .int i) :: P)) : v = .int i := by obtain ⟨Y, F, q⟩ := s.head; cases q; rfl
theorem Sp.bl {i : Bool} (s : Sp K mg Z Hb H ((v, .bl i) :: P)) : v = .bl i := by obtain ⟨Y, F, q⟩ := s.head; cases q; rfl
theorem Sp.str {i : Str} (s : Sp K mg Z Hb H ((v, .str i) :: P)) : v = .str i := by obtain ⟨Y, F, q⟩ := s.head; cases q; rfl
theorem Sp.non (s : Sp K mg Z Hb H ((v, .non) :: P)) : v = .non := by obtain ⟨Y, F, q⟩ := s.head; cases q; rfl
theorem Sp.ty {i : BT} (s : Sp K mg Z Hb H ((v, .ty i) :: P)) : v = .ty i.name := by obtain ⟨Y, F, q⟩ := s.head; cases q; rfl
theorem Sp.lst {o : Bool} {ds : List D} (s : Sp K mg Z Hb H ((v, .lst o ds) :: P)) : ∃ a vs, v = .ref a ∧ H a = some (.lst vs) ∧ vs.length = ds.length ∧ Sp K mg Z Hb H (vs.zip ds ++ P) := by
  obtain ⟨⟨F, r, nd, hb⟩, b, fr⟩ := s
  cases r with
  | @cons _ _ _ F1 F2 q t => cases q with
    | lstF h z ts => exact ⟨_, _, rfl, h, ts.len, ⟨_, (ts.zip).append t, nd, hb⟩, b, fr⟩
    | @lstO a vs _ F h ts =>
      refine ⟨_, _, rfl, h, ts.len, ⟨_, ((ts.zip).append t).other fun c _ _ z => ⟨z.1, fun m => z.2 (List.mem_cons_of_mem _ m)⟩, (List.nodup_cons.mp nd).2, fun c m => hb c (List.mem_cons_of_mem _ m)⟩, b, fr⟩
theorem Sp.scr {ds : List D} (s : Sp K mg Z Hb H ((v, .scr ds) :: P)) : ∃ a vs, v = .ref a ∧ ScrAt K H a vs ∧ vs.length = ds.length := by
  obtain ⟨Y, F, q⟩ := s.head
  cases q with
  | scr h ts => exact ⟨_, _, rfl, h, ts.len⟩
theorem Sp.tup {ds : List D} (s : Sp K mg Z Hb H ((v, .tup ds) :: P)) : ∃ a vs, v = .ref a ∧ SqT K H a vs ∧ vs.length = ds.length ∧ Sp K mg Z Hb H (vs.zip ds ++ P) := s.openT
end
mutual
def toPy : D → Option PyData
  | .non => some .none
  | .bl b => some (.bool b)
  | .int i => some (.int i)
  | .str x => some (.str x)
  | .tup ds => (toPys ds).map .tuple
  | .lst _ ds => (toPys ds).map .list
  | .scr ds => (toPys ds).map .list
  | _ => none
def toPys : List D → Option (List PyData)
  | [] => some []
  | d :: r => match toPy d, toPys r with
    | some p, some q => some (p :: q)
    | _, _ => none
end
section
variable {K : PySem.W.Frag} {mg : Str → Option Value} {H Hb : Hp} {Z : Addr → Prop}
mutual
theorem Rep.dp {v : V} {d : D} {F : List Addr} (r : Rep K mg H Z v d F) {p : PyData} (e : toPy d = some p) : Dp K H v p := by
  cases r with
  | non => cases e; exact .non
  | bl => cases e; exact .bl _
  | int => cases e; exact .int _
  | str => cases e; exact .str _
  | ty => cases e
  | glo _ => cases e
  | tup h t =>
    simp only [toPy, Option.map_eq_some_iff] at e
    obtain ⟨ps, e1, e2⟩ := e
    subst e2
    exact .tup h (t.dps e1)
  | scr h t =>
    simp only [toPy, Option.map_eq_some_iff] at e
    obtain ⟨ps, e1, e2⟩ := e
    subst e2
    exact .lst h.sq (t.dps e1)
  | lstF h z t =>
    simp only [toPy, Option.map_eq_some_iff] at e
    obtain ⟨ps, e1, e2⟩ := e
    subst e2
    exact .lst (.of h) (t.dps e1)
  | lstO h t =>
    simp only [toPy, Option.map_eq_some_iff] at e
    obtain ⟨ps, e1, e2⟩ := e
    subst e2
    exact .lst (.of h) (t.dps e1)
  | dctF _ _ _ _ => cases e
  | dctO _ _ _ => cases e
  | objF _ _ _ _ _ _ => cases e
  | exc _ _ _ _ _ _ => cases e
  | objO _ _ _ _ _ => cases e
  | rawF _ _ _ _ => cases e
  | rawO _ _ _ => cases e
  | hole => cases e
  | tab _ _ _ _ _ => cases e
theorem Reps.dps {vs : List V} {ds : List D} {F : List Addr} (r : Reps K mg H Z vs ds F) {ps : List PyData} (e : toPys ds = some ps) : DpAll K H vs ps := by
  cases r with
  | nil => cases e; exact .nil
  | cons q t =>
    simp only [toPys] at e
    split at e
    · rename_i p ps' e1 e2
      cases e
      exact .cons (q.dp e1) (t.dps e2)
    · cases e
end
theorem Sp.dp {P : PL} {v : V} {d : D} {p : PyData} (s : Sp K mg Z Hb H ((v, d) :: P)) (e : toPy d = some p) : Dp K H v p := by
  obtain ⟨Y, F, q⟩ := s.head; exact q.dp e
end
def BR (X : Cx) (f : Value → Value → Sem Value) (g : D → D → Option D) : Prop := ∀ {Z : Addr → Prop} {Hb H : Hp} {P : PL} {x y : V} {dx dy d : D}, Sp X.K X.mg Z Hb H ((y, dy) :: (x, dx) :: P) → g dx dy = some d →
  ∀ Q : VK, (∀ v H', Sp X.K X.mg Z Hb H' ((v, d) :: P) → Q v H') → wR X f x y H Q
def mBin (g : D → D → Option D) (a b : ME) : ME := fun δ => match a δ with
  | some (x, δ1) => match b δ1 with
    | some (y, δ2) => match g x y with
      | some z => some (z, δ2)
      | none => none
    | none => none
  | none => none
section
variable {X : Cx} {a b : Expr} {ma mb : ME} {g : D → D → Option D} {pos : Pos}
theorem bin_of {δ δ' : Env} {d : D} (e : mBin g ma mb δ = some (d, δ')) : ∃ x δ1 y, ma δ = some (x, δ1) ∧ mb δ1 = some (y, δ') ∧ g x y = some d := by
  unfold mBin at e
  split at e
  · rename_i x δ1 e1
    split at e
    · rename_i y δ2 e2
      split at e
      · rename_i z e3
        cases e
        exact ⟨x, δ1, y, e1, e2, e3⟩
      · cases e
    · cases e
  · cases e
theorem bin_run {f : Value → Value → Sem Value} (ho : BR X f g) (ha : IG X a ma) (hb : IG X b mb) {Z : Addr → Prop} {Hb H : Hp} {σ : L2.St} {δ δ' : Env} {L : PL} {d : D} (s : Sq X Z Hb H σ δ L) (e : mBin g ma mb δ = some (d, δ'))
    (Q : VK) (q : ∀ v H', Sq X Z Hb H' σ δ' ((v, d) :: L) → Q v H') : tOp (wR X f) (wE X a) (wE X b) σ H Q := by
  obtain ⟨x, δ1, y, e1, e2, e3⟩ := bin_of e
  exact ha s e1 _ fun v H1 s1 => hb s1 e2 _ fun w H2 s2 => ho s2.sp e3 Q fun z H3 s3 => q z H3 ⟨s3, s2.dom⟩
theorem ig_bin {op : Operator} (ho : BR X (binaryOp op) g) (ha : IG X a ma) (hb : IG X b mb) : IG X (.BinOp a op b pos) (mBin g ma mb) := by
  intro Z Hb H σ δ L d δ' s e Q q
  exact wE_of (pe_op opr_w pe_w pe_w) (bin_run ho ha hb s e Q q)
theorem ig_cmp {op : CmpOp} (ho : BR X (compareOp op) g) (ha : IG X a ma) (hb : IG X b mb) (hm : behindInMarks op b = false) : IG X (.Compare a [op] [b] pos) (mBin g ma mb) := by
  intro Z Hb H σ δ L d δ' s e Q q
  exact wE_of (pe_cmpR opr_w pe_w pe_w hm) (bin_run ho ha hb s e Q q)
/-- a mirror whose value is a bool -/
def toT (m : ME) : MT := fun δ => match m δ with
  | some (.bl b, δ') => some (b, δ')
  | _ => none
theorem toT_of {m : ME} {δ δ' : Env} {b : Bool} (e : toT m δ = some (b, δ')) : m δ = some (.bl b, δ') := by
  unfold toT at e
  split at e
  · rename_i b' δ1 e1
    cases e; exact e1
  · cases e
theorem it_cmp {op : CmpOp} (ho : BR X (compareOp op) g) (ha : IG X a ma) (hb : IG X b mb) (hm : behindInMarks op b = false) : IT X (.Compare a [op] [b] pos) (toT (mBin g ma mb)) := by
  intro Z Hb H σ δ L d δ' s e Q q
  refine wT_of (pt_cmpR opr_w pe_w pe_w hm) ?_
  exact bin_run ho ha hb s (toT_of e) _ fun v H' s' => ⟨d, s'.sp.bl, q H' s'.drop⟩
variable {c : Expr} {mc : ME} {g' : D → D → Option D}
end
def dAdd : D → D → Option D
  | .int i, .int j => some (.int (i + j))
  | .str i, .str j => if i.length + j.length ≤ sizeLine then some (.str (i ++ j)) else none
  | .lst _ a, .lst _ b => if a.length + b.length ≤ sizeLine then some (.lst true (a ++ b)) else none
  | .tup a, .tup b => if a.length + b.length ≤ sizeLine then some (.tup (a ++ b)) else none
  | _, _ => none
def dSub : D → D → Option D
  | .int i, .int j => some (.int (i - j))
  | _, _ => none
def dMul : D → D → Option D
  | .int i, .int j => if (-(2 ^ 64) < i ∧ i < 2 ^ 64) ∨ (-(2 ^ 64) < j ∧ j < 2 ^ 64) then some (.int (i * j)) else none
  | .lst _ a, .int k => if -(2 ^ 63) ≤ k ∧ k < 2 ^ 63 ∧ a.length * k.toNat ≤ sizeLine then some (.lst true (List.replicate k.toNat (fzs a)).flatten) else none
  | _, _ => none
def dFdiv : D → D → Option D
  | .int i, .int j => if j ≠ 0 ∧ j.natAbs < 1073741824 then some (.int (i.fdiv j)) else none
  | _, _ => none
def dMod : D → D → Option D
  | .int i, .int j => if j ≠ 0 then some (.int (i.fmod j)) else none
  | _, _ => none
def dPow : D → D → Option D
  | .int i, .int j => if 0 ≤ j ∧ j ≤ 1000000 ∧ i.natAbs < 2 ^ 64 then some (.int (i ^ j.toNat)) else none
  | _, _ => none
/-- == of data -/
def pyEq (x y : D) : Option Bool := match toPy x, toPy y with
  | some p, some q => if SeqAt.shaped p && SeqAt.shaped q then some (PyData.eqv p q) else none
  | _, _ => none
def dEqB : D → D → Option Bool
  | .int i, .int j => some (decide (i = j))
  | .str i, .str j => some (decide (i = j))
  | .bl i, .bl j => some (decide (i = j))
  | x, y => pyEq x y
def dEq : D → D → Option D
  | .tup ds, .tup [] => some (.bl ds.isEmpty)
  | .lst _ ds, .lst _ [] => some (.bl ds.isEmpty)
  | x, y => (dEqB x y).map .bl
def dNe (x y : D) : Option D := (dEqB x y).map fun b => .bl !b
def dLt : D → D → Option D
  | .int i, .int j => some (.bl (decide (i < j)))
  | _, _ => none
def dGe : D → D → Option D
  | .int i, .int j => some (.bl (decide (j ≤ i)))
  | _, _ => none
def keyD : D → Option Key
  | .int i => some (.inl i)
  | .str i => some (.inr i)
  | _ => none
section
variable {X : Cx}
/-- two values are given up, one comes -/
theorem Sp.two {K : PySem.W.Frag} {mg : Str → Option Value} {H Hb : Hp} {Z : Addr → Prop} {P : PL} {x y w : V} {dx dy d : D} (s : Sp K mg Z Hb H ((y, dy) :: (x, dx) :: P)) (h : ∀ Y, Rep K mg H Y w d []) : Sp K mg Z Hb H ((w, d) :: P) := s.drop.drop.put h
theorem br_int {f : Value → Value → Sem Value} {g : D → D → Option D} {C : Int → Int → Prop} {k : Int → Int → Int} (h : OpR X f (rI C fun i j => .int (k i j))) (hg : ∀ x y d, g x y = some d → ∃ i j, x = .int i ∧ y = .int j ∧ C i j ∧ d = .int (k i j)) : BR X f g := by
  intro Z Hb H P x y dx dy d s e Q q
  obtain ⟨i, j, rfl, rfl, hc, rfl⟩ := hg _ _ _ e
  refine wR_of h ⟨i, j, s.drop.int, s.int, hc, q _ _ (s.two fun _ => .int)⟩
theorem br_int0 {f : Value → Value → Sem Value} {g : D → D → Option D} {k : Int → Int → Bool} (h : OpR X f (rI0 fun i j => .bl (k i j))) (hg : ∀ x y d, g x y = some d → ∃ i j, x = .int i ∧ y = .int j ∧ d = .bl (k i j)) : BR X f g := by
  intro Z Hb H P x y dx dy d s e Q q
  obtain ⟨i, j, rfl, rfl, rfl⟩ := hg _ _ _ e
  exact wR_of h ⟨i, j, s.drop.int, s.int, q _ _ (s.two fun _ => .bl)⟩
theorem br_sub : BR X (binaryOp .Sub) dSub := by
  intro Z Hb H P x y dx dy d s e Q q
  unfold dSub at e; split at e
  · cases e
    exact wR_of op_sub ⟨_, _, s.drop.int, s.int, q _ _ (s.two fun _ => .int)⟩
  · cases e
theorem br_fdiv : BR X (binaryOp .FloorDiv) dFdiv := br_int op_fdivN fun x y d e => by
  unfold dFdiv at e; split at e
  · split at e
    · rename_i h; cases e; exact ⟨_, _, rfl, rfl, h, rfl⟩
    · cases e
  · cases e
theorem br_mod : BR X (binaryOp .Mod) dMod := br_int op_modN fun x y d e => by
  unfold dMod at e; split at e
  · split at e
    · rename_i h; cases e; exact ⟨_, _, rfl, rfl, h, rfl⟩
    · cases e
  · cases e
theorem br_pow : BR X (binaryOp .Pow) dPow := br_int op_pow fun x y d e => by
  unfold dPow at e; split at e
  · split at e
    · rename_i h; cases e; exact ⟨_, _, rfl, rfl, h, rfl⟩
    · cases e
  · cases e
theorem br_lt : BR X (compareOp .Lt) dLt := br_int0 op_lt fun x y d e => by
  unfold dLt at e; split at e
  · cases e; exact ⟨_, _, rfl, rfl, rfl⟩
  · cases e
theorem br_ge : BR X (compareOp .GtE) dGe := br_int0 op_ge fun x y d e => by
  unfold dGe at e; split at e
  · cases e; exact ⟨_, _, rfl, rfl, rfl⟩
  · cases e
theorem zip_append {vs ws : List V} {ds es : List D} (h : vs.length = ds.length) : (vs ++ ws).zip (ds ++ es) = vs.zip ds ++ ws.zip es := List.zip_append h
theorem br_add : BR X (binaryOp .Add) dAdd := by
  intro Z Hb H P x y dx dy d s e Q q
  unfold dAdd at e; split at e
  · cases e
    exact wR_of op_add ⟨_, _, s.drop.int, s.int, q _ _ (s.two fun _ => .int)⟩
  · split at e
    · rename_i h; cases e
      exact wR_of op_add_str ⟨_, _, s.drop.str, s.str, h, q _ _ (s.two fun _ => .str)⟩
    · cases e
  · rename_i o1 as o2 bs
    split at e
    · rename_i h; cases e
      obtain ⟨b, ws, rfl, hb, lb, s1⟩ := s.lst
      obtain ⟨a, vs, rfl, ha, la, s2⟩ := (s1.perm List.perm_middle).lst
      refine wR_of op_cat ⟨a, b, vs, ws, rfl, rfl, ha, hb, by omega, fun p hp => q _ _ ?_⟩
      refine Sp.newL (P := P) (s2.perm ?_) (by simp [la, lb]) hp
      rw [zip_append la, List.append_assoc]
    · cases e
  · rename_i as bs
    split at e
    · rename_i h; cases e
      have s0 : Sp X.K X.mg Z Hb H ((x, .tup as) :: (y, .tup bs) :: P) := s.perm (.swap _ _ _)
      obtain ⟨b, ws, rfl, hb, lb, s1⟩ := s.tup
      obtain ⟨a, vs, rfl, ha, la, s2⟩ := (s1.perm List.perm_middle).tup
      refine wR_of op_catA ⟨a, b, vs, ws, rfl, rfl, ha, hb, by omega, fun e0 => q _ _ ?_, fun e0 e1 => q _ _ ?_, fun e0 e1 p hp => q _ _ ?_⟩
      · subst e0
        have : as = [] := List.eq_nil_of_length_eq_zero (by simpa using la.symm)
        subst this
        exact (s.perm (.swap _ _ _)).drop
      · subst e1
        have : bs = [] := List.eq_nil_of_length_eq_zero (by simpa using lb.symm)
        subst this
        rw [List.append_nil]
        exact (s0.perm (.swap _ _ _)).drop
      · refine Sp.newT (P := P) (s2.perm ?_) (by simp [la, lb]) hp
        rw [zip_append la, List.append_assoc]
    · cases e
  · cases e
theorem Rps.own_nil {K : PySem.W.Frag} {mg : Str → Option Value} {H : Hp} {Z : Addr → Prop} {A : PL} : ∀ {F : List Addr}, Rps K mg H Z A F → (∀ p ∈ A, isFz p.2 = true) → F = [] := by
  induction A with
  | nil => intro F r _; cases r; rfl
  | cons p A ih =>
    intro F r h
    cases r with
    | cons q t => rw [q.own_nil (h _ List.mem_cons_self), ih t (fun p m => h p (List.mem_cons_of_mem _ m))]; rfl
/-- frozen items as often as wanted -/
theorem Sp.rep {K : PySem.W.Frag} {mg : Str → Option Value} {H Hb : Hp} {Z : Addr → Prop} {P A : PL} (s : Sp K mg Z Hb H (A ++ P)) (h : ∀ p ∈ A, isFz p.2 = true) (n : Nat) : Sp K mg Z Hb H ((List.replicate n A).flatten ++ P) := by
  obtain ⟨⟨F, r, nd, hb⟩, b, fr⟩ := s
  obtain ⟨F1, F2, rfl, r1, r2⟩ := r.split
  have e : F1 = [] := r1.own_nil h
  subst e
  refine ⟨⟨F2, ?_, by simpa using nd, fun a m => hb a (by simpa using m)⟩, b, fr⟩
  have r1' : Rps K mg H (fun a => Z a ∧ a ∉ F2) A [] := r1.other fun a _ _ z => ⟨z.1, by simpa using z.2⟩
  have r2' : Rps K mg H (fun a => Z a ∧ a ∉ F2) P F2 := r2.other fun a _ _ z => ⟨z.1, by simpa using z.2⟩
  clear r1 r2
  have : Rps K mg H (fun a => Z a ∧ a ∉ F2) (List.replicate n A).flatten [] := by
    induction n with
    | zero => exact .nil
    | succ n ih =>
      (rw [List.replicate_succ, List.flatten_cons])
      exact Rps.append (F := []) (G := []) r1' ih
  exact Rps.append (F := []) this r2'
theorem zip_rep {vs : List V} {ds : List D} (h : vs.length = ds.length) (n : Nat) : (List.replicate n vs).flatten.zip (List.replicate n ds).flatten = (List.replicate n (vs.zip ds)).flatten := by
  induction n with
  | zero => rfl
  | succ n ih =>
    rw [List.replicate_succ, List.replicate_succ, List.replicate_succ, List.flatten_cons, List.flatten_cons, List.flatten_cons, List.zip_append h, ih]
theorem br_mul : BR X (binaryOp .Mult) dMul := by
  intro Z Hb H P x y dx dy d s e Q q
  unfold dMul at e; split at e
  · split at e
    · rename_i h; cases e
      exact wR_of op_mul ⟨_, _, s.drop.int, s.int, h, q _ _ (s.two fun _ => .int)⟩
    · cases e
  · rename_i o as k
    split at e
    · rename_i h; cases e
      have ey := s.int
      have s0 := s.drop.freeze
      obtain ⟨a, vs, rfl, ha, la, s1⟩ := s0.lst
      refine wR_of op_rep ⟨a, k, vs, rfl, ey, ha, h.1, h.2.1, by rw [la, fzs_length]; exact h.2.2, fun p hp => q _ _ ?_⟩
      have s2 := s1.rep (n := k.toNat) fun p m => isFzs_iff.mp (isFzs_fzs as) _ (List.of_mem_zip m).2
      rw [← zip_rep la] at s2
      exact s2.newL (by simp [la]) hp
    · cases e
  · cases e
theorem eq_run (hu : X.A.units + 64 < cLine) {Z : Addr → Prop} {Hb H : Hp} {P : PL} {x y : V} {dx dy : D} {b : Bool} (s : Sp X.K X.mg Z Hb H ((y, dy) :: (x, dx) :: P)) (e : dEqB dx dy = some b) (Q : VK) :
    (Q (.bl b) H → wR X (compareOp .Eq) x y H Q) ∧ (Q (.bl !b) H → wR X (compareOp .NotEq) x y H Q) := by
  unfold dEqB at e
  split at e
  · cases e
    rw [s.int, s.drop.int]
    refine ⟨fun q => wR_of op_eq ⟨rfl, ?_⟩, fun q => wR_of op_ne ⟨rfl, ?_⟩⟩
    all_goals (simpa using q)
  · cases e
    rw [s.str, s.drop.str]
    refine ⟨fun q => wR_of op_eq ⟨rfl, ?_⟩, fun q => wR_of op_ne ⟨rfl, ?_⟩⟩
    all_goals (simpa using q)
  · cases e
    rw [s.bl, s.drop.bl]
    refine ⟨fun q => wR_of op_eq ⟨rfl, ?_⟩, fun q => wR_of op_ne ⟨rfl, ?_⟩⟩
    all_goals (simpa using q)
  · unfold pyEq at e
    split at e
    · rename_i p q' e1 e2
      split at e
      · rename_i h
        cases e
        have h' := Bool.and_eq_true_iff.mp h
        exact ⟨fun q => wR_of (op_eqD hu) ⟨p, q', s.drop.dp e1, s.dp e2, h'.1, h'.2, q⟩, fun q => wR_of (op_neD hu) ⟨p, q', s.drop.dp e1, s.dp e2, h'.1, h'.2, q⟩⟩
      · cases e
    · cases e
theorem br_eq (hu : X.A.units + 64 < cLine) : BR X (compareOp .Eq) dEq := by
  intro Z Hb H P x y dx dy d s e Q q
  unfold dEq at e
  split at e
  · rename_i ds
    cases e
    obtain ⟨a, vs, rfl, ha, hl, s1⟩ := s.drop.tup
    obtain ⟨b, ws, rfl, hb, hl2, s2⟩ := s.tup
    intro pins s0 σ u v I r1 r2
    cases r1
    cases r2
    obtain ⟨its, rv, ht, _⟩ := I.tuple ha
    obtain ⟨its2, rv2, ht2, _⟩ := I.tuple hb
    have z2 : its2 = [] := by
      have h1 := rv2.length
      rw [hl2] at h1
      exact List.eq_nil_of_length_eq_zero h1.symm
    subst z2
    refine SeqAt.eq_tupleAt (e := fun _ => true) ht ht2 (by omega) (fun j h1 h2 => absurd h2 (by simp)) ?_
    refine ⟨.bl ds.isEmpty, H, I, ?_, q _ _ (s.two fun _ => .bl)⟩
    have : ds.isEmpty = (its.toArray.size == 0) := by
      have h1 := rv.length
      rw [hl] at h1
      cases ds with
      | nil => simp at h1; simp [h1]
      | cons x r => cases its with
        | nil => simp at h1
        | cons y t => simp
    rw [this]
    show Value.bool _ = Value.bool _
    simp
  · rename_i o1 ds o2
    cases e
    obtain ⟨a, vs, rfl, ha, hl, s1⟩ := Sp.lst s.drop
    obtain ⟨b, ws, rfl, hb, hl2, s2⟩ := Sp.lst s
    intro pins s0 σ u v I r1 r2
    cases r1
    cases r2
    obtain ⟨its, rv, ht, _⟩ := I.list (.of ha)
    obtain ⟨its2, rv2, ht2, _⟩ := I.list (.of hb)
    have z2 : its2 = [] := by
      have h1 := rv2.length
      rw [hl2] at h1
      exact List.eq_nil_of_length_eq_zero h1.symm
    subst z2
    have h1 := rv.length
    rw [hl] at h1
    have fin := q (.bl ds.isEmpty) H (s.two fun _ => .bl)
    cases ds with
    | nil =>
      have z1 : its = [] := List.eq_nil_of_length_eq_zero h1.symm
      subst z1
      exact SeqAt.eq_listAt (e := fun _ => true) ht.isList ht2.isList rfl (by omega) (fun j h1 h2 => absurd h2 (by simp)) ⟨.bl true, H, I, rfl, fin⟩
    | cons x r =>
      refine SeqAt.eq_list_lengthsAt ht.isList ht2.isList ?_ (by omega) ⟨.bl false, H, I, rfl, fin⟩
      cases its with
      | nil => simp at h1
      | cons y t => simp
  · obtain ⟨b, e1, rfl⟩ := Option.map_eq_some_iff.mp e
    exact (eq_run hu s e1 Q).1 (q _ _ (s.two fun _ => .bl))
theorem br_ne (hu : X.A.units + 64 < cLine) : BR X (compareOp .NotEq) dNe := by
  intro Z Hb H P x y dx dy d s e Q q
  unfold dNe at e
  obtain ⟨b, e1, rfl⟩ := Option.map_eq_some_iff.mp e
  exact (eq_run hu s e1 Q).2 (q _ _ (s.two fun _ => .bl))
theorem Sp.key {K : PySem.W.Frag} {mg : Str → Option Value} {H Hb : Hp} {Z : Addr → Prop} {P : PL} {x : V} {d : D} {k : Key} (s : Sp K mg Z Hb H ((x, d) :: P)) (e : keyD d = some k) : x = kV k := by
  unfold keyD at e
  split at e
  · cases e; exact s.int
  · cases e; exact s.str
  · cases e
end
end DL
set_option Elab.async false
set_option linter.all false
set_option maxRecDepth 100000
set_option maxHeartbeats 4000001
namespace DL
open PySem PySem.Spec L2
section
variable {X : Cx} {a b c e : Expr} {ma mb mc : ME} {pos : Pos} {rest : List Expr}
/-- -a -/
def mNeg (a : ME) : ME := fun δ => match a δ with
  | some (.int i, δ1) => some (.int (-i), δ1)
  | _ => none
theorem ig_neg (ha : IG X a ma) : IG X (.UnaryOp .USub a pos) (mNeg ma) := by
  intro Z Hb H σ δ L d δ' s e Q q
  unfold mNeg at e
  split at e
  · rename_i i δ1 e1
    cases e
    refine wE_of (pe_un un_neg pe_w) (ha s e1 _ fun v H1 s1 => ⟨i, s1.sp.int, q _ _ ?_⟩)
    exact s1.drop.put fun _ => .int
  · cases e
def truD : D → Option Bool
  | .non => some false
  | .bl b => some b
  | .int i => some (i != 0)
  | .str x => if x.length ≤ sizeLine then some ((x.length : Int) != 0) else none
  | .tup ds => some (!ds.isEmpty)
  | .lst _ ds => some (!ds.isEmpty)
  | .scr ds => some (!ds.isEmpty)
  | .dct o ks _ => if o = true then some (!ks.isEmpty) else none
  | _ => none
theorem isEmpty_len {α β : Type} {a : List α} {b : List β} (h : a.length = b.length) : a.isEmpty = b.isEmpty := by
  (cases a <;> cases b <;> simp_all)
theorem Rep.tru {K : PySem.W.Frag} {mg : Str → Option Value} {H : Hp} {Z : Addr → Prop} {v : V} {d : D} {F : List Addr} {k : Bool} (r : Rep K mg H Z v d F) (e : truD d = some k) : TruV K v H k := by
  cases r with
  | non => cases e; rfl
  | bl => cases e; rfl
  | int => cases e; rfl
  | str =>
    simp only [truD] at e
    split at e
    · rename_i h; cases e; exact ⟨h, rfl⟩
    · cases e
  | ty => cases e
  | glo _ => cases e
  | tup h t => cases e; exact .inr (.inl ⟨_, h, by rw [isEmpty_len t.len]⟩)
  | scr h t => cases e; exact .inl ⟨_, h.sq, by rw [isEmpty_len t.len]⟩
  | lstF h z t => cases e; exact .inl ⟨_, .of h, by rw [isEmpty_len t.len]⟩
  | lstO h t => cases e; exact .inl ⟨_, .of h, by rw [isEmpty_len t.len]⟩
  | dctF h z hk t => cases e
  | dctO h hk t => obtain ⟨hk, _⟩ := hk; subst hk; cases e; exact .inr (.inr ⟨_, h, by rw [isEmpty_len (List.length_map _)]⟩)
  | objF _ _ _ _ _ _ => cases e
  | exc _ _ _ _ _ _ => cases e
  | hole => cases e
  | tab _ _ _ _ _ => cases e
  | objO _ _ _ _ _ => cases e
  | rawF _ _ _ _ => cases e
  | rawO _ _ _ => cases e
theorem Sp.tru {K : PySem.W.Frag} {mg : Str → Option Value} {H Hb : Hp} {Z : Addr → Prop} {P : PL} {v : V} {d : D} {k : Bool} (s : Sp K mg Z Hb H ((v, d) :: P)) (e : truD d = some k) : TruV K v H k := by
  obtain ⟨Y, F, q⟩ := s.head; exact q.tru e
/-- a plain expression as a test -/
def mTru (a : ME) : MT := fun δ => match a δ with
  | some (d, δ1) => match truD d with
    | some k => some (k, δ1)
    | none => none
  | none => none
theorem it_val (ha : IG X a ma) (he : ∀ whole, isTrue a X.env whole = (do let v ← whole; standAt a.pos; holding [v] (truthy v))) : IT X a (mTru ma) := by
  intro Z Hb H σ δ L d δ' s e Q q
  unfold mTru at e
  split at e
  · rename_i d0 δ1 e1
    split at e
    · rename_i k e2
      cases e
      exact wT_of (pt_truth pe_w he) (ha s e1 _ fun v H1 s1 => ⟨_, s1.sp.tru e2, q _ s1.drop⟩)
    · cases e
  · cases e
def tAnd2 (a b : MT) : MT := fun δ => match a δ with
  | some (true, δ1) => b δ1
  | some (false, δ1) => some (false, δ1)
  | none => none
def tOr2 (a b : MT) : MT := fun δ => match a δ with
  | some (false, δ1) => b δ1
  | some (true, δ1) => some (true, δ1)
  | none => none
def tNot1 (a : MT) : MT := fun δ => match a δ with
  | some (k, δ1) => some (!k, δ1)
  | none => none
variable {ta tb : MT}
theorem iw_or1 (ha : IT X a ta) : IW X (.BoolOp .Or [a] pos) ta := by
  intro Z Hb H σ δ L d δ' s e Q q
  exact wW_of (pw_or1 pt_w) (ha s e Q q)
theorem iw_or (ha : IT X a ta) (hb : IW X (.BoolOp .Or (b :: rest) pos) tb) : IW X (.BoolOp .Or (a :: b :: rest) pos) (tOr2 ta tb) := by
  intro Z Hb H σ δ L d δ' s e Q q
  refine wW_of (pw_or pt_w pw_w) ?_
  unfold tOr2 at e
  split at e
  · rename_i δ1 e1
    refine ha s e1 _ fun H1 s1 => ?_
    show (if false = true then _ else _)
    (rw [if_neg Bool.false_ne_true])
    exact hb s1 e Q q
  · rename_i δ1 e1
    cases e
    refine ha s e1 _ fun H1 s1 => ?_
    (show (if true = true then _ else _))
    rw [if_pos rfl]
    exact q _ s1
  · cases e
theorem it_w (h : IW X a ta) : IT X a ta := by
  intro Z Hb H σ δ L d δ' s e Q q
  exact wT_of pw_w.pt (h s e Q q)
theorem it_not (ha : IT X a ta) : IT X (.UnaryOp .Not a pos) (tNot1 ta) := by
  intro Z Hb H σ δ L d δ' s e Q q
  unfold tNot1 at e
  split at e
  · rename_i k δ1 e1
    cases e
    exact wT_of (pt_not pt_w) (ha s e1 _ q)
  · cases e
def mAnd (a b : ME) : ME := fun δ => match a δ with
  | some (d, δ1) => match truD d with
    | some true => b δ1
    | some false => some (d, δ1)
    | none => none
  | none => none
def mOr (a b : ME) : ME := fun δ => match a δ with
  | some (d, δ1) => match truD d with
    | some false => b δ1
    | some true => some (d, δ1)
    | none => none
  | none => none
def mNot (a : ME) : ME := fun δ => match a δ with
  | some (d, δ1) => match truD d with
    | some k => some (.bl !k, δ1)
    | none => none
  | none => none
def mIf (t : MT) (a b : ME) : ME := fun δ => match t δ with
  | some (true, δ1) => a δ1
  | some (false, δ1) => b δ1
  | none => none
theorem ig_if (hc : IT X c ta) (ha : IG X a ma) (hb : IG X b mb) : IG X (.IfExp c a b pos) (mIf ta ma mb) := by
  intro Z Hb H σ δ L d δ' s e Q q
  refine wE_of (pe_ifExp pt_w pe_w pe_w) ?_
  unfold mIf at e
  split at e
  · rename_i δ1 e1
    refine hc s e1 _ fun H1 s1 => ?_
    rw [if_pos rfl]
    exact ha s1 e Q q
  · rename_i δ1 e1
    refine hc s e1 _ fun H1 s1 => ?_
    (rw [if_neg Bool.false_ne_true])
    exact hb s1 e Q q
  · cases e
end
abbrev ML := Env → Option (List D × Env)
def IL (X : Cx) (es : List Expr) (m : ML) : Prop := ∀ {Z : Addr → Prop} {Hb H : Hp} {σ : L2.St} {δ : Env} {L : PL} {ds : List D} {δ' : Env}, Sq X Z Hb H σ δ L → m δ = some (ds, δ') →
  ∀ Q : List V → Hp → Prop, (∀ vs H', vs.length = ds.length → Sq X Z Hb H' σ δ' (vs.zip ds ++ L) → Q vs H') → wA X es σ H Q
def mNil : ML := fun δ => some ([], δ)
def mCons (a : ME) (r : ML) : ML := fun δ => match a δ with
  | some (d, δ1) => match r δ1 with
    | some (ds, δ2) => some (d :: ds, δ2)
    | none => none
  | none => none
theorem Sq.perm {X : Cx} {Z : Addr → Prop} {Hb H : Hp} {σ : L2.St} {δ : Env} {L L' : PL} (s : Sq X Z Hb H σ δ L) (h : L.Perm L') : Sq X Z Hb H σ δ L' := ⟨s.sp.perm (h.append_right _), s.dom⟩
theorem Sq.dropL {X : Cx} {Z : Addr → Prop} {Hb H : Hp} {σ : L2.St} {δ : Env} {L A : PL} (s : Sq X Z Hb H σ δ (A ++ L)) : Sq X Z Hb H σ δ L := ⟨by
  have := s.sp
  (rw [List.append_assoc] at this)
  exact this.dropL, s.dom⟩
section
variable {X : Cx} {e : Expr} {es : List Expr} {m : ME} {r : ML} {pos : Pos}
theorem il_nil : IL X [] mNil := by
  intro Z Hb H σ δ L d δ' s e Q q
  cases e
  exact wA_of pa_nil (q [] H rfl s)
theorem il_cons (h : IG X e m) (t : IL X es r) (hs : starEach (e :: es) X.env = (false, eval e X.env) :: starEach es X.env) : IL X (e :: es) (mCons m r) := by
  intro Z Hb H σ δ L d δ' s e' Q q
  refine wA_of (pa_cons pe_w pa_w hs) ?_
  unfold mCons at e'
  split at e'
  · rename_i d0 δ1 e1
    split at e'
    · rename_i ds δ2 e2
      cases e'
      refine h s e1 _ fun v H1 s1 => t s1 e2 _ fun vs H2 hl s2 => q (v :: vs) H2 (by simp [hl]) ?_
      refine s2.perm ?_
      show List.Perm _ ((v, d0) :: (vs.zip ds ++ L))
      exact List.perm_middle
    · cases e'
  · cases e'
def mTup (r : ML) : ME := fun δ => match r δ with
  | some (ds, δ1) => if ds.length ≤ sizeLine then some (.tup ds, δ1) else none
  | none => none
def mLst (r : ML) : ME := fun δ => match r δ with
  | some (ds, δ1) => if ds.length ≤ sizeLine then some (.lst true ds, δ1) else none
  | none => none
theorem ig_tup {x1} (h : IL X es r) : IG X (.Tuple es x1 pos) (mTup r) := by
  intro Z Hb H σ δ L d δ' s e Q q
  refine wE_of (pe_tup pa_w) ?_
  unfold mTup at e
  split at e
  · rename_i ds δ1 e1
    split at e
    · rename_i hz
      cases e
      refine h s e1 _ fun vs H1 hl s1 => ⟨by rw [hl]; exact hz, fun p hp => q _ _ ⟨?_, s1.dom⟩⟩
      have := s1.sp
      (rw [List.append_assoc] at this)
      exact this.newT hl hp
    · cases e
  · cases e
theorem ig_lst (h : IL X es r) : IG X (.List es pos) (mLst r) := by
  intro Z Hb H σ δ L d δ' s e Q q
  refine wE_of (pe_lst pa_w) ?_
  unfold mLst at e
  split at e
  · rename_i ds δ1 e1
    split at e
    · rename_i hz
      cases e
      refine h s e1 _ fun vs H1 hl s1 => ⟨by rw [hl]; exact hz, fun p hp => q _ _ ⟨?_, s1.dom⟩⟩
      have := s1.sp
      (rw [List.append_assoc] at this)
      exact this.newL hl hp
    · cases e
  · cases e
end
def lookD : List Key → List D → Key → Option D
  | k :: ks, d :: ds, j => if k = j then some d else lookD ks ds j
  | _, _, _ => none
theorem lookD_get : ∀ {kvs : List (Key × V)} {ds : List D} {k : Key} {d : D}, lookD (kvs.map (·.1)) ds k = some d → ∃ j v, valV kvs k = some v ∧ kvs[j]? = some (k, v) ∧ (kvs.map (·.1)).take j = ((kvs.map (·.1)).take j).filter (fun i => decide (i ≠ k)) ∧ ds[j]? = some d
  | [], ds, k, d, h => by simp [lookD] at h
  | p :: r, [], k, d, h => by simp [lookD] at h
  | p :: r, x :: ds, k, d, h => by
    simp only [List.map_cons, lookD] at h
    split at h
    · rename_i e
      cases h
      refine ⟨0, p.2, valV_pos e, ?_, rfl, rfl⟩
      rw [← e]; rfl
    · rename_i e
      obtain ⟨j, v, h1, h2, h3, h4⟩ := lookD_get h
      refine ⟨j + 1, v, (valV_neg e).trans h1, by simpa using h2, ?_, by simpa using h4⟩
      have : decide (p.1 ≠ k) = true := decide_eq_true e
      rw [List.map_cons, List.take_succ_cons, List.filter_cons, if_pos this, ← h3]
def dIx : D → D → Option D
  | .dct _ ks ds, y => match keyD y with
    | some k => (lookD ks ds k).map fz
    | none => none
  | .tup ds, .int i => atI ds i
  | .lst _ ds, .int i => (atI ds i).map fz
  | .str x, .int i => if x.length ≤ sizeLine then (atI x.cps.toList i).map fun c => .str ⟨#[c]⟩ else none
  | _, _ => none
def wX (X : Cx) : R2 := fun x y H Q => ∀ (value slice : Expr) pins s σ u v, Inv X pins σ H s → RelV x u → RelV y v → subscripted slice false u v = operate [u, v] (getItem u v) → wpAny (model X.prog X.w) X.A (PyProof.Rows.subscriptTail value slice u v) (EP X pins σ Q) X.xe s
theorem ixr_w {X : Cx} : IxR X (wX X) := fun value slice pins s σ H x y v u Q I r1 r2 h hs => h value slice pins s σ v u I r1 r2 hs
theorem wX_of {X : Cx} {r : R2} (h : IxR X r) {x y : V} {H : Hp} {Q : VK} (q : r x y H Q) : wX X x y H Q := fun value slice pins s σ u v I r1 r2 hs => h value slice pins s σ H x y u v Q I r1 r2 q hs
theorem atI_zip {vs : List V} {ds : List D} (hl : vs.length = ds.length) {i : Int} {d : D} (h : atI ds i = some d) : ∃ j v, ixN vs.length i = some j ∧ atI vs i = some v ∧ vs[j]? = some v ∧ ds[j]? = some d := by
  unfold atI at h ⊢
  obtain ⟨j, e1, e2⟩ := Option.bind_eq_some_iff.mp h
  have hj : j < vs.length := by rw [hl]; exact (List.getElem?_eq_some_iff.mp e2).1
  exact ⟨j, vs[j], by rw [hl]; exact e1, by rw [hl, e1]; simp [hj], by simp [hj], e2⟩
theorem zip_get {vs : List V} {ds : List D} {j : Nat} {v : V} {d : D} (h1 : vs[j]? = some v) (h2 : ds[j]? = some d) : ∃ A, (vs.zip ds).Perm ((v, d) :: A) := by
  have : (vs.zip ds)[j]? = some (v, d) := by rw [List.getElem?_zip_eq_some]; exact ⟨h1, h2⟩
  obtain ⟨A, B, e⟩ := List.append_of_mem (List.mem_of_getElem? this)
  exact ⟨A ++ B, by rw [e]; exact List.perm_middle⟩
section
variable {X : Cx} {a b : Expr} {ma mb : ME} {pos : Pos}
theorem dgetR {H : Hp} {a : Addr} {kvs : List (Key × V)} {k : Key} (e : Rd H a (.dK kvs)) : DGet H a (kV k) (valV kvs k) := .inl ⟨kvs, k, e, rfl, rfl⟩
theorem rd_inj {H : Hp} {a : Addr} {k1 k2 : List (Key × V)} (h1 : Rd H a (.dK k1)) (h2 : Rd H a (.dK k2)) : k1 = k2 := by
  rcases h1 with h1 | ⟨o1, h1⟩ <;> rcases h2 with h2 | ⟨o2, h2⟩ <;> have := h1.symm.trans h2 <;> cases this <;> rfl
theorem ix_dictW (hu : X.A.units + 1 < cLine) {x y : V} {H : Hp} {Q : VK} {a : Addr} {v : V} (ex : x = .ref a) (g : DGet H a y (some v)) (q : Q v H) : wX X x y H Q := by
  intro value slice pins s σ u w I r1 r2 hs
  subst ex
  cases r1
  exact PyProof.Rows.tail_any (ops := [.ref a, w]) (dict_typeIs I g) PySem.F.slot_dict_getitem.lookup (d_getItem hu I g r2 fun w' s3 I3 rw' => ⟨v, H, I3, rw', q⟩) hs
theorem ix_run (hu : X.A.units + 1 < cLine) {Z : Addr → Prop} {Hb H : Hp} {P : PL} {x y : V} {dx dy d : D} (s : Sp X.K X.mg Z Hb H ((y, dy) :: (x, dx) :: P)) (e : dIx dx dy = some d) (Q : VK) (q : ∀ v H', Sp X.K X.mg Z Hb H' ((v, d) :: P) → Q v H') : wX X x y H Q := by
  unfold dIx at e
  split at e
  · rename_i o ks ds
    split at e
    · rename_i k ek
      obtain ⟨d0, e0, rfl⟩ := Option.map_eq_some_iff.mp e
      have ey := s.key ek
      subst ey
      have s1 := s.drop.freeze
      obtain ⟨Y, F, r⟩ := s1.head
      cases r with
      | @dctF a kvs _ _ ha hz hk ts =>
        rw [← hk.1] at e0
        obtain ⟨j, v, h1, h2, _, h3⟩ := lookD_get e0
        refine ix_dictW hu rfl (by rw [← h1]; exact dgetR ha) (q _ _ ?_)
        refine (s1.part (isFz_fz _) (w := v) (t := fz d0) fun Y' q' => ?_).perm (.swap _ _ _) |>.drop
        cases q' with
        | dctF ha' hz' hk' ts' =>
          have := rd_inj ha ha'
          subst this
          have hj : (fzs ds)[j]? = some (fz d0) := by rw [fzs_map, List.getElem?_map, h3]; rfl
          obtain ⟨v', hv', rv'⟩ := ts'.get hj
          rw [List.getElem?_map, h2] at hv'
          cases hv'
          exact rv'
    · cases e
  · rename_i ds i
    have ey := s.int
    obtain ⟨p, vs, rfl, hp, hl, s1⟩ := s.drop.tup
    obtain ⟨j, v, _, e1, e2, e3⟩ := atI_zip hl e
    refine wX_of ix_tup ⟨p, vs, i, v, rfl, ey, hp, e1, q _ _ ?_⟩
    obtain ⟨A, pm⟩ := zip_get e2 e3
    have s2 := s1.perm (pm.append_right P)
    have s3 : Sp X.K X.mg Z Hb H (A ++ ((v, d) :: P)) := s2.perm (by
      show List.Perm ((v, d) :: (A ++ P)) _
      exact List.perm_middle.symm)
    exact s3.dropL
  · rename_i o ds i
    obtain ⟨d0, e0, rfl⟩ := Option.map_eq_some_iff.mp e
    have ey := s.int
    obtain ⟨p, vs, rfl, hp, hl, s1⟩ := s.drop.freeze.lst
    have e0' : atI (fzs ds) i = some (fz d0) := by
      unfold atI at e0 ⊢
      rw [fzs_length]
      obtain ⟨j, e1, e2⟩ := Option.bind_eq_some_iff.mp e0
      rw [e1]
      show (fzs ds)[j]? = _
      rw [fzs_map, List.getElem?_map, e2]; rfl
    obtain ⟨j, v, _, e1, e2, e3⟩ := atI_zip hl e0'
    refine wX_of ix_list ⟨p, vs, i, v, rfl, ey, .of hp, e1, q _ _ ?_⟩
    obtain ⟨A, pm⟩ := zip_get e2 e3
    have s2 := s1.perm (pm.append_right P)
    have s3 : Sp X.K X.mg Z Hb H (A ++ ((v, fz d0) :: P)) := s2.perm (by
      show List.Perm ((v, fz d0) :: (A ++ P)) _
      exact List.perm_middle.symm)
    exact s3.dropL
  · rename_i x0 i
    split at e
    · rename_i hz
      obtain ⟨c, e0, rfl⟩ := Option.map_eq_some_iff.mp e
      exact wX_of ix_str ⟨x0, i, c, s.drop.str, s.int, hz, e0, q _ _ (s.two fun _ => .str)⟩
    · cases e
  · cases e
theorem ig_ix (hu : X.A.units + 65 < cLine) (ha : IG X a ma) (hb : IG X b mb) (hs : PlainIx b) : IG X (.Subscript a b pos) (mBin dIx ma mb) := by
  intro Z Hb H σ δ L d δ' s e Q q
  refine wE_of (pe_ix ixr_w pe_w pe_w hs) ?_
  obtain ⟨x, δ1, y, e1, e2, e3⟩ := bin_of e
  exact ha s e1 _ fun v H1 s1 => hb s1 e2 _ fun w H2 s2 => ix_run (by omega) s2.sp e3 Q fun z H3 s3 => q z H3 ⟨s3, s2.dom⟩
end
end DL
set_option Elab.async false
set_option linter.all false
set_option maxRecDepth 100000
set_option maxHeartbeats 4000001
namespace DL
open PySem PySem.Spec L2
def BC (X : Cx) (f : Value) (g : List D → Option D) : Prop := ∀ {Z : Addr → Prop} {Hb H : Hp} {P : PL} {vs : List V} {ds : List D} {d : D}, vs.length = ds.length → Sp X.K X.mg Z Hb H (vs.zip ds ++ P) → g ds = some d →
  ∀ Q : VK, (∀ v H', Sp X.K X.mg Z Hb H' ((v, d) :: P) → Q v H') → wC X f vs H Q
def mCallB (g : List D → Option D) (r : ML) : ME := fun δ => match r δ with
  | some (ds, δ1) => match g ds with
    | some d => some (d, δ1)
    | none => none
  | none => none
theorem callB_of {g : List D → Option D} {r : ML} {δ δ' : Env} {d : D} (e : mCallB g r δ = some (d, δ')) : ∃ ds, r δ = some (ds, δ') ∧ g ds = some d := by
  unfold mCallB at e
  split at e
  · rename_i ds δ1 e1
    split at e
    · rename_i d0 e2
      cases e
      exact ⟨ds, e1, e2⟩
    · cases e
  · cases e
section
variable {X : Cx} {x : Str} {p pos : Pos} {e : Expr} {es : List Expr} {r : ML} {g : List D → Option D} {id T : String}
theorem ig_callB (hb : BC X (.builtin id) g) (hg : Gl X x) (hm : X.mg x = none) (hv : bootBuiltins x = some (.builtin id)) (ha : IL X (e :: es) r) (hn : x ≠ "__name__") (hdb : (x == ("__debug__" : Str)) = false)
    (he : starEach (e :: es) X.env = (false, eval e X.env) :: starEach es X.env) (hpl : (backTo pos (starEach es X.env)).any (·.1) = false) : IG X (.Call (.Name x p) (e :: es) [] pos) (mCallB g r) := by
  intro Z Hb H σ δ L d δ' s e' Q q
  obtain ⟨ds, e1, e2⟩ := callB_of e'
  refine wE_of (pe_callB callr_w hg hm hv pa_w hn hdb he hpl) ?_
  refine ha s e1 _ fun vs H1 hl s1 => ?_
  have := s1.sp
  (rw [List.append_assoc] at this)
  exact hb hl this e2 Q fun v H' s' => q v H' ⟨s', s1.dom⟩
theorem ig_callTy (hb : BC X (.type T) g) (hg : Gl X x) (hm : X.mg x = none) (hv : bootBuiltins x = some (.type T)) (ha : IL X (e :: es) r) (hn : x ≠ "__name__") (hdb : (x == ("__debug__" : Str)) = false)
    (he : starEach (e :: es) X.env = (false, eval e X.env) :: starEach es X.env) (hpl : (backTo pos (starEach es X.env)).any (·.1) = false) : IG X (.Call (.Name x p) (e :: es) [] pos) (mCallB g r) := by
  intro Z Hb H σ δ L d δ' s e' Q q
  obtain ⟨ds, e1, e2⟩ := callB_of e'
  refine wE_of (pe_callTy callr_w hg hm hv pa_w hn hdb he hpl) ?_
  refine ha s e1 _ fun vs H1 hl s1 => ?_
  have := s1.sp
  (rw [List.append_assoc] at this)
  exact hb hl this e2 Q fun v H' s' => q v H' ⟨s', s1.dom⟩
/-- a text, a number of the module's top -/
theorem ig_glob {d : D} {v : V} {u : Value} (hg : Gl X x) (hm : X.mg x = some u) (rv : RelV v u) (r : ∀ H Y, Rep X.K X.mg H Y v d []) (hdb : (x == ("__debug__" : Str)) = false) : IG X (.Name x pos) (mC d) :=
  ig_c (pe_glob hg hm rv hdb) r
end
def isOf (t : BT) : D → Option Bool
  | .non => some false
  | .bl _ => some (decide (t = .bool) || decide (t = .int))
  | .int _ => some (decide (t = .int))
  | .str _ => some (decide (t = .str))
  | .tup _ => some (decide (t = .tup))
  | .lst _ _ => some (decide (t = .lst))
  | .scr _ => some (decide (t = .lst))
  | .dct _ _ _ => some (decide (t = .dct))
  | _ => none
def isAny : List BT → D → Option Bool
  | [], _ => some false
  | t :: r, d => match isOf t d with
    | some true => some true
    | some false => isAny r d
    | none => none
def tysOf : List D → Option (List BT)
  | [] => some []
  | .ty t :: r => (tysOf r).map (t :: ·)
  | _ :: _ => none
def dIsi : List D → Option D
  | [d, .ty t] => (isOf t d).map .bl
  | [d, .tup ts] => match tysOf ts with
    | some (t :: bs) => (isAny (t :: bs) d).map .bl
    | _ => none
  | _ => none
theorem kit_non : ∀ t : BT, kitB "NoneType" t.name = some false := by intro t; cases t <;> decide +kernel
theorem kit_bl : ∀ t : BT, kitB "bool" t.name = some (decide (t = .bool) || decide (t = .int)) := by intro t; cases t <;> decide +kernel
theorem kit_int : ∀ t : BT, kitB "int" t.name = some (decide (t = .int)) := by intro t; cases t <;> decide +kernel
theorem kit_str : ∀ t : BT, kitB "str" t.name = some (decide (t = .str)) := by intro t; cases t <;> decide +kernel
theorem kit_tup : ∀ t : BT, kitB "tuple" t.name = some (decide (t = .tup)) := by intro t; cases t <;> decide +kernel
theorem kit_lst : ∀ t : BT, kitB "list" t.name = some (decide (t = .lst)) := by intro t; cases t <;> decide +kernel
theorem kit_dct : ∀ t : BT, kitB "dict" t.name = some (decide (t = .dct)) := by intro t; cases t <;> decide +kernel
section
variable {K : PySem.W.Frag} {mg : Str → Option Value} {H Hb : Hp} {Z : Addr → Prop}
theorem tyx_tup {a : Addr} {vs : List V} (h : SqT K H a vs) : TyX K H (.ref a) (.type "tuple") := by
  rcases h with (h | ⟨o, h⟩) | ⟨o, its, n, h, hc, _⟩
  · exact .base (.tup h)
  · exact .fTuple h
  · exact .kTuple h hc
theorem tyx_scr {a : Addr} {vs : List V} (h : ScrAt K H a vs) : TyX K H (.ref a) (.type "list") := by
  rcases h with ⟨o, h⟩ | ⟨o, its, n, h, hc, _⟩
  · exact .base (.frz h)
  · exact .kList h hc
/-- the class of a value -/
theorem Rep.cls {v : V} {d : D} {F : List Addr} (r : Rep K mg H Z v d F) (h0 : isOf .int d ≠ none) : ∃ c, TyX K H v c ∧ ∀ (t : BT) (b : Bool), isOf t d = some b → PySem.W.kitOne K c (.type t.name) = some b := by
  cases r with
  | non => exact ⟨_, .base .non, fun t b e => by cases e; exact kit_ty (kit_non t)⟩
  | bl => exact ⟨_, .base (.bl _), fun t b e => by cases e; exact kit_ty (kit_bl t)⟩
  | int => exact ⟨_, .base (.int _), fun t b e => by cases e; exact kit_ty (kit_int t)⟩
  | str => exact ⟨_, .base (.str _), fun t b e => by cases e; exact kit_ty (kit_str t)⟩
  | ty => exact absurd rfl h0
  | glo _ => exact absurd rfl h0
  | tup h _ => exact ⟨_, tyx_tup h, fun t b e => by cases e; exact kit_ty (kit_tup t)⟩
  | scr h _ => exact ⟨_, tyx_scr h, fun t b e => by cases e; exact kit_ty (kit_lst t)⟩
  | lstF h _ _ => exact ⟨_, .base (.lst h), fun t b e => by cases e; exact kit_ty (kit_lst t)⟩
  | lstO h _ => exact ⟨_, .base (.lst h), fun t b e => by cases e; exact kit_ty (kit_lst t)⟩
  | dctF h _ _ _ =>
    refine ⟨.type "dict", ?_, fun t b e => by cases e; exact kit_ty (kit_dct t)⟩
    rcases h with h | ⟨o, h⟩
    · exact .base (.dK h)
    · exact .fDict h
  | dctO h _ _ => exact ⟨_, .base (.dK h), fun t b e => by cases e; exact kit_ty (kit_dct t)⟩
  | objF _ _ _ _ _ _ => exact absurd rfl h0
  | exc _ _ _ _ _ _ => exact absurd rfl h0
  | hole => exact absurd rfl h0
  | tab _ _ _ _ _ => exact absurd rfl h0
  | objO _ _ _ _ _ => exact absurd rfl h0
  | rawF _ _ _ _ => exact absurd rfl h0
  | rawO _ _ _ => exact absurd rfl h0
theorem isOf_some {d : D} {t t' : BT} (h : isOf t d ≠ none) : isOf t' d ≠ none := by
  cases d <;> simp_all [isOf]
theorem kit_any {c : Value} {d : D} (hc : ∀ (t : BT) (b : Bool), isOf t d = some b → PySem.W.kitOne K c (.type t.name) = some b) : ∀ {bs : List BT} {b : Bool}, isAny bs d = some b → PySem.W.kitAny K c (bs.map fun t => Value.type t.name) = some b
  | [], b, e => by cases e; rfl
  | t :: bs, b, e => by
    simp only [isAny] at e
    cases e1 : isOf t d with
    | none => rw [e1] at e; cases e
    | some k =>
      rw [e1] at e
      refine kitAny_cons (hc t k e1) (fun hk => ?_) (fun hk => ?_)
      · subst hk; exact kit_any hc e
      · subst hk; cases e; rfl
theorem cls_all : ∀ {ts : List D} {bs : List BT} {Y : Addr → Prop} {vs : List V} {G : List Addr}, tysOf ts = some bs → Reps K mg H Y vs ts G → Paired ClsV vs (bs.map fun t => Value.type t.name)
  | [], bs, _, vs, _, e, r => by cases e; cases r; exact .nil
  | t :: ts, bs, _, vs, _, e, r => by
    cases t with
    | ty t =>
      simp only [tysOf, Option.map_eq_some_iff] at e
      obtain ⟨bs', e1, rfl⟩ := e
      cases r with
      | cons q r' =>
        cases q
        exact .cons (.ty _) (cls_all e1 r')
    | _ => cases e
end
/-- isinstance against a tuple of classes that is read -/
def rIsiS (K : PySem.W.Frag) : List V → Hp → VK → Prop := fun xs H Q => ∃ (x : V) (tp : Addr) (cs : List V) (t : Value) (us : List Value) (b : Bool), xs = [x, .ref tp] ∧ SqT K H tp cs ∧ Paired ClsV cs us ∧ TyX K H x t ∧ PySem.W.kitAny K t us = some b ∧ Q (.bl b) H
section
variable {X : Cx}
theorem call_isiS : CallR X (.builtin "isinstance") (rIsiS X.K) := by
  (intro pins s σ H xs us Q I r h)
  (obtain ⟨x, tp, cs, t, ws, b, rfl, hT, k, ty, e, q⟩ := h)
  (obtain ⟨u1, u2, rfl, r1, r2⟩ := vals2 r)
  (cases (show u2 = Value.ref tp from r2))
  obtain ⟨Pz, Zk, pz, hx⟩ := kit_of I r1 ty
  obtain ⟨its, rv, ⟨⟨oc, od, dt, sl⟩, h1, h2, n, h3⟩, _⟩ := I.tuple hT
  have e3 := ClsV.all k rv
  subst e3
  simp only at h2 h3
  subst h2 h3
  exact PySem.W.kia_tup Zk I.kIn pz h1 e hx fun tk => ⟨.bl b, H, I.tok tk, rfl, q⟩
theorem bc_isi : BC X (.builtin "isinstance") dIsi := by
  intro Z Hb H P vs ds d hl s e Q q
  unfold dIsi at e
  split at e
  · rename_i d0 t
    obtain ⟨b, e1, rfl⟩ := Option.map_eq_some_iff.mp e
    match vs, hl with
    | [v, w], _ =>
      have s0 : Sp X.K X.mg Z Hb H ((v, d0) :: (w, .ty t) :: P) := s
      have ew := s0.drop.ty
      obtain ⟨Y, F, r⟩ := s0.head
      obtain ⟨c, hc, hk⟩ := r.cls (isOf_some (t := t) (by rw [e1]; exact fun h => nomatch h))
      refine wC_of call_isi ⟨v, w, c, .type t.name, b, rfl, by rw [ew]; exact .ty _, hc, hk t b e1, q _ _ ?_⟩
      exact s0.drop.drop.put fun _ => .bl
  · rename_i d0 ts
    split at e
    · rename_i t0 bs0 e0
      obtain ⟨b, e1, rfl⟩ := Option.map_eq_some_iff.mp e
      match vs, hl with
      | [v, w], _ =>
        have s0 : Sp X.K X.mg Z Hb H ((v, d0) :: (w, .tup ts) :: P) := s
        obtain ⟨a, cs, rfl, ha, hlc, s1⟩ := s0.drop.tup
        obtain ⟨Y, F, r⟩ := s0.head
        have fin : Sp X.K X.mg Z Hb H ((V.bl b, D.bl b) :: P) := s0.drop.drop.put fun _ => .bl
        obtain ⟨Y', F', r'⟩ := s0.drop.head
        cases r' with
        | @tup _ cs' _ _ h' t' =>
          have hp := cls_all e0 t'
          have hn : isOf .int d0 ≠ none := by
            simp only [isAny] at e1
            cases e3 : isOf t0 d0 with
            | none => rw [e3] at e1; cases e1
            | some _ => exact isOf_some (t := t0) (by rw [e3]; exact fun h => nomatch h)
          obtain ⟨c, hc, hk⟩ := r.cls hn
          exact wC_of call_isiS ⟨v, a, cs', c, _, b, rfl, h', hp, hc, kit_any hk e1, q _ _ fin⟩
    · cases e
  · cases e
end
end DL
namespace DL
open PySem PySem.Spec L2
def dLen : List D → Option D
  | [.str x] => if x.length ≤ sizeLine then some (.int x.length) else none
  | [.tup ds] => some (.int ds.length)
  | [.lst _ ds] => some (.int ds.length)
  | [.scr ds] => some (.int ds.length)
  | [.dct _ ks _] => some (.int ks.length)
  | _ => none
def dAbs : List D → Option D
  | [.int i] => some (.int (if i < 0 then -i else i))
  | _ => none
def dInt : List D → Option D
  | [.int i] => some (.int i)
  | [.bl b] => some (.int (if b then 1 else 0))
  | _ => none
def dMin2 : List D → Option D
  | [.int i, .int j] => some (.int (if j < i then j else i))
  | _ => none
section
variable {X : Cx}
/-- len of a dict that is read -/
theorem call_lenR : CallR X (.builtin "len") (fun xs H Q => ∃ a kvs, xs = [V.ref a] ∧ Rd H a (.dK kvs) ∧ Q (.int kvs.length) H) := by
  rintro pins s σ H _ us Q I r ⟨a, kvs, rfl, ha, q⟩
  rcases r with _ | ⟨rfl, _ | _⟩
  exact d_len I ha fun t s' I' => ⟨.int kvs.length, H, I', ⟨t, rfl⟩, q⟩
theorem bc_len : BC X (.builtin "len") dLen := by
  intro Z Hb H P vs ds d hl s e Q q
  unfold dLen at e
  split at e
  · rename_i x
    split at e
    · rename_i hz
      cases e
      match vs, hl with
      | [v], _ =>
        have s0 : Sp X.K X.mg Z Hb H ((v, .str x) :: P) := s
        exact wC_of call_len ⟨v, x.length, rfl, by rw [s0.str]; exact ⟨hz, rfl⟩, q _ _ (s0.drop.put fun _ => .int)⟩
    · cases e
  · rename_i ts
    cases e
    match vs, hl with
    | [v], _ =>
      have s0 : Sp X.K X.mg Z Hb H ((v, .tup ts) :: P) := s
      obtain ⟨a, ws, rfl, ha, hl, _⟩ := s0.tup
      exact wC_of call_len ⟨_, ts.length, rfl, .inr ⟨ws, ha, hl.symm⟩, q _ _ (s0.drop.put fun _ => .int)⟩
  · rename_i o ts
    cases e
    match vs, hl with
    | [v], _ =>
      have s0 : Sp X.K X.mg Z Hb H ((v, .lst o ts) :: P) := s
      obtain ⟨a, ws, rfl, ha, hl, _⟩ := s0.lst
      exact wC_of call_len ⟨_, ts.length, rfl, .inl ⟨ws, .of ha, hl.symm⟩, q _ _ (s0.drop.put fun _ => .int)⟩
  · rename_i ts
    cases e
    match vs, hl with
    | [v], _ =>
      have s0 : Sp X.K X.mg Z Hb H ((v, .scr ts) :: P) := s
      obtain ⟨a, ws, rfl, ha, hl⟩ := s0.scr
      exact wC_of call_len ⟨_, ts.length, rfl, .inl ⟨ws, ha.sq, hl.symm⟩, q _ _ (s0.drop.put fun _ => .int)⟩
  · rename_i o ks ts
    cases e
    match vs, hl with
    | [v], _ =>
      have s0 : Sp X.K X.mg Z Hb H ((v, .dct o ks ts) :: P) := s
      obtain ⟨Y, F, r⟩ := s0.head
      have go : ∀ (a : Addr) (kvs : List (Key × V)), v = .ref a → Rd H a (.dK kvs) → kvs.map (·.1) = ks → wC X (.builtin "len") [v] H Q := fun a kvs ev ha hk => by
        refine wC_of call_lenR ⟨a, kvs, by rw [ev], ha, ?_⟩
        have : kvs.length = ks.length := by rw [← hk, List.length_map]
        rw [this]
        exact q _ _ (s0.drop.put fun _ => .int)
      cases r with
      | dctF h z e' t => exact go _ _ rfl h e'.1
      | dctO h e' t => exact go _ _ rfl (.inl h) e'.1
  · cases e
theorem bc_abs : BC X (.builtin "abs") dAbs := by
  intro Z Hb H P vs ds d hl s e Q q
  unfold dAbs at e
  split at e
  · cases e
    match vs, hl with
    | [v], _ =>
      have s0 : Sp X.K X.mg Z Hb H ((v, _) :: P) := s
      exact wC_of call_abs ⟨_, by rw [s0.int], q _ _ (s0.drop.put fun _ => .int)⟩
  · cases e
theorem bc_int : BC X (.type "int") dInt := by
  intro Z Hb H P vs ds d hl s e Q q
  unfold dInt at e
  split at e
  · cases e
    match vs, hl with
    | [v], _ =>
      have s0 : Sp X.K X.mg Z Hb H ((v, _) :: P) := s
      exact wC_of call_int1 (.inl ⟨_, by rw [s0.int], q _ _ (s0.drop.put fun _ => .int)⟩)
  · cases e
    match vs, hl with
    | [v], _ =>
      have s0 : Sp X.K X.mg Z Hb H ((v, _) :: P) := s
      exact wC_of call_int1 (.inr ⟨_, by rw [s0.bl], q _ _ (s0.drop.put fun _ => .int)⟩)
  · cases e
theorem bc_min2 (hc : X.calm = true) : BC X (.builtin "min") dMin2 := by
  intro Z Hb H P vs ds d hl s e Q q
  unfold dMin2 at e
  split at e
  · cases e
    match vs, hl with
    | [v, w], _ =>
      have s0 : Sp X.K X.mg Z Hb H ((v, _) :: (w, _) :: P) := s
      exact wC_of (call_min2 hc) ⟨_, _, by rw [s0.int, s0.drop.int], q _ _ (s0.drop.drop.put fun _ => .int)⟩
  · cases e
end
end DL
set_option Elab.async false
set_option linter.all false
set_option maxRecDepth 100000
set_option maxHeartbeats 4000001
namespace DL
open PySem.Spec PySem L2 PyProof.Rows
/-- the def at f keeps the promise sp, wherever there is room, no exception is handled and no repr is under way -/
structure FnG (P : Program) (w : World) (K : PySem.W.Frag) (mg : Str → Option Value) (base : Heap) (k : Nat) (f : Addr) (fd : FuncData) (ps : List Str) (sp : L2.Sp) : Prop where
  len : ∀ (vs : List V) (H : Hp) (Q : VK) (E : XK), sp vs H Q E → vs.length = ps.length
  run : ∀ (A : Around) (outer : List PySem.Env) (s : Shared) (H : Hp) (args : Args) (us : List Value) (vs : List V) (Q : VK) (E : XK), Room k A → A.guards = some [] →
    Env0 P w K mg base A outer s H → BindsTo s fd args (ps.zip us) → Vals vs us → sp vs H Q E → codeAny (model P w) A (.call (.ref f) args) (CR CX0 outer P w H s Q E) s
theorem FnG.mono {P : Program} {w : World} {K : PySem.W.Frag} {mg : Str → Option Value} {base : Heap} {j k : Nat} {f : Addr} {fd : FuncData} {ps : List Str} {sp : L2.Sp} (F : FnG P w K mg base j f fd ps sp) (h : j ≤ k) : FnG P w K mg base k f fd ps sp :=
  ⟨F.len, fun A outer s H args us vs Q E hr => F.run A outer s H args us vs Q E (hr.mono h)⟩
section
variable {P : Program} {w : World} {K : PySem.W.Frag} {mg : Str → Option Value} {base : Heap} {k : Nat} {f : Addr} {x qual : Str} {params : Arguments} {body : List Stmt} {scope : Scope} {dvs : List V} {kws : List (Str × V)} {fd : FuncData} {N ps : List Str} {sp : L2.Sp}
/-- a def's body: X, the context in which it stands -/
theorem FnG.of (F : FunD K x qual params body scope dvs kws f fd) (S : FnScope N ps scope) (len : ∀ vs H Q E, sp vs H Q E → vs.length = ps.length)
    (hb : ∀ (cdv : Value) (A : Around) (outer : List PySem.Env) (s : Shared) (H : Hp) (vs : List V) (Q : VK) (E : XK), Room k (A.deeper (envOfC qual scope s.heap.objs.size f cdv)) → (A.deeper (envOfC qual scope s.heap.objs.size f cdv)).guards = some [] → sp vs H Q E →
      wSs (cxOf CX0 P w K mg base N qual scope f cdv A outer s H E).nox body { nx := fun _ H' => Q .non H', rt := Q } (start N vs) H) : FnG P w K mg base (k + 1) f fd ps sp := by
  (obtain ⟨oc, od, dV, kV, doc, pm, an, cdv, ct, osl, rfl, lk, hcd, _, _⟩ := F.ex)
  refine ⟨len, fun A outer s H args us vs Q E hr hg e0 hbi rv hsp => ?_⟩
  have inK : K.In s.heap := e0.mod.kin.keeps fun b o e => (e0.bs b o e).1
  have hlim : s.heap.NoLimit := e0.mod.nolimit.keeps fun b o e => (e0.bs b o e).1
  have kinds : ∀ y ∈ ps.zip us, scope.names.lookup y.1 = some .local ∨ (scope.names.lookup y.1 = some .cell ∧ ((cellsFrom (s.heap.objs.size + 1) scope.names []).lookup y.1).isSome = true) := by
    rintro ⟨n, v⟩ hy
    exact (S.par n (List.of_mem_zip hy).1).imp id fun q => ⟨q, PySem.W.cellsFrom_some _ _ _ (.inl q)⟩
  have hbind := hbi
  refine codeAny_call_function hr.depth (inK _ _ lk) rfl S.co S.gen rfl
    (PySem.W.codeRec_of inK hcd) (hbind _ _ _ _ ?_)
  refine wpAny_newFunctionEnv_cells S.kind kinds fun env he s1 x1 => ?_
  subst he
  refine ⟨hlim.keeps x1.toInCall.keep, codeAny_func ?_⟩
  have I : Inv (cxOf CX0 P w K mg base N qual scope f cdv A outer s H E) [] (start N vs) H s1 := inv_start S hr.hd e0 (len _ _ _ _ hsp) rv x1
  have run := hb cdv A outer s H vs Q E (hr.deeper _) hg hsp
  refine wpAny_mono (run [] s1 (I.wish _)) (fun fl s' hs => ?_) fun e s' hs => hs.elim
  have hs := hs.unwish
  have fin : ∀ {σ' : L2.St} {H' : Hp} {v : V} {u : Value}, Inv (cxOf CX0 P w K mg base N qual scope f cdv A outer s H E) [] σ' H' s' → RelV v u → Q v H' → CE outer P w H s Q u s' :=
    fun {σ' H' v u} J r q => ⟨v, H', J.os, J.bare, J.base, J.hok, r, q⟩
  match fl, hs with
  | .ret u, ⟨v, σ', H', J, r, q⟩ => exact fin J r q
  | .next, ⟨σ', H', J, q⟩ => exact fin (v := V.non) (u := Value.none) J rfl q
  | .brk, ⟨_, _, _, q⟩ => exact q.elim
  | .cont, ⟨_, _, _, q⟩ => exact q.elim
end
section
variable {X : Cx} {k : Nat} {f : Addr} {fd : FuncData} {ps : List Str} {sp : L2.Sp} {dvs : List V} {ds : List Value} {x m : Str} {p pos apos : Pos} {e : Expr} {es : List Expr}
/-- the callee runs -/
theorem FnG.go (F : FnG X.prog X.w X.K X.mg X.base k f fd ps sp) (hr : Room k X.A) (hg : X.A.guards = some []) {pins : List (Addr × Obj)} {σ : L2.St} {H : Hp} {s : Shared} {Q : VK} {us : List Value} {vs : List V} {args : Args} (I : Inv X pins σ H s) (hb : BindsTo s fd args (ps.zip us)) (rv : Vals vs us) (h : sp vs H Q E0) :
    codeAny (model X.prog X.w) X.A (.call (.ref f) args) (fun r s' => match r with
      | .ok (.ret u) => EP X pins σ Q u s'
      | _ => False) s := by
  refine codeAny_mono (F.run X.A X.stack s H args us vs Q E0 hr hg I.env0 hb rv h) fun r s' hq => ?_
  match r, hq with
  | .ok (.ret u), hq => exact I.after hq
end
end DL
namespace DL
open PySem.Spec PySem L2 PyProof.Rows
abbrev MF := List D → Option (D × List D)
def spD (K : PySem.W.Frag) (mg : Str → Option Value) (n : Nat) (m : MF) : L2.Sp := fun vs H Q _ => vs.length = n ∧ ∃ (Z : Addr → Prop) (Hb : Hp) (ds : List D) (r : D) (ds' : List D),
  ds.length = n ∧ Sp K mg Z Hb H (vs.zip ds) ∧ m ds = some (r, ds') ∧ ∀ v H', Sp K mg Z Hb H' ((v, r) :: vs.zip ds') → Q v H'
/-- an argument: a slot of the caller's, or a value -/
inductive AS where
  | v (i : Nat)
  | e (m : ME)
inductive AR where
  | v (i : Nat)
  | e (d : D)
def mArgs : List AS → Env → Option (List AR × Env)
  | [], δ => some ([], δ)
  | .v i :: r, δ => match δ[i]? with
    | some (some _) => match mArgs r δ with
      | some (rs, δ1) => some (.v i :: rs, δ1)
      | none => none
    | _ => none
  | .e m :: r, δ => match m δ with
    | some (d, δ1) => match mArgs r δ1 with
      | some (rs, δ2) => some (.e d :: rs, δ2)
      | none => none
    | none => none
/-- what is handed over: the trees, and which slots are lent -/
def lend : List AR → Env → Option (List (D × Option Nat) × Env)
  | [], δ => some ([], δ)
  | .v i :: r, δ => match δ[i]? with
    | some (some d) => if isFz d then match lend r δ with
        | some (ls, δ1) => some ((d, none) :: ls, δ1)
        | none => none
      else match lend r (δ.set i none) with
        | some (ls, δ1) => some ((d, some i) :: ls, δ1)
        | none => none
    | _ => none
  | .e d :: r, δ => match lend r δ with
    | some (ls, δ1) => some ((d, none) :: ls, δ1)
    | none => none
/-- what was lent comes back -/
def restore : List (D × Option Nat) → List D → Env → Env
  | (_, some i) :: ls, d :: ds, δ => restore ls ds (δ.set i (some d))
  | (_, none) :: ls, _ :: ds, δ => restore ls ds δ
  | _, _, δ => δ
def mCall (m : MF) (as : List AS) (dd : List D) : ME := fun δ => match mArgs as δ with
  | some (rs, δ1) => match lend rs δ1 with
    | some (ls, δ2) => match m (ls.map (·.1) ++ dd) with
      | some (r, ds') => if ds'.length = ls.length + dd.length then some (r, restore ls ds' δ2) else none
      | none => none
    | none => none
  | none => none
/-- the arguments' values: those of the slots, those of the temporary pairs -/
inductive AV (σ : L2.St) : List AR → List V → PL → Prop
  | nil : AV σ [] [] []
  | v {i v rs vs T} : σ[i]? = some (some v) → AV σ rs vs T → AV σ (.v i :: rs) (v :: vs) T
  | e {d v rs vs T} : AV σ rs vs T → AV σ (.e d :: rs) (v :: vs) ((v, d) :: T)
def IA (X : Cx) (es : List Expr) (as : List AS) : Prop := ∀ {Z : Addr → Prop} {Hb H : Hp} {σ : L2.St} {δ : Env} {L : PL} {rs : List AR} {δ' : Env}, Sq X Z Hb H σ δ L → mArgs as δ = some (rs, δ') →
  ∀ Q : List V → Hp → Prop, (∀ vs H' T, AV σ rs vs T → Sq X Z Hb H' σ δ' (T ++ L) → Q vs H') → wA X es σ H Q
section
variable {X : Cx} {e : Expr} {es : List Expr} {as : List AS} {m : ME}
theorem ia_nil : IA X [] [] := by
  intro Z Hb H σ δ L rs δ' s e Q q
  cases e
  exact wA_of pa_nil (q [] H [] .nil s)
theorem ia_v {x : Str} {p : Pos} (i : Nat) (hp : PE X (.Name x p) (tVar i)) (t : IA X es as) (hs : starEach (.Name x p :: es) X.env = (false, eval (.Name x p) X.env) :: starEach es X.env) : IA X (.Name x p :: es) (.v i :: as) := by
  intro Z Hb H σ δ L rs δ' s e Q q
  simp only [mArgs] at e
  split at e
  · rename_i d hd
    split at e
    · rename_i rs' δ1 e1
      cases e
      obtain ⟨v, hv⟩ := s.dom.2 i d hd
      refine wA_of (pa_cons hp pa_w hs) ⟨v, hv, t s e1 _ fun vs H1 T av s1 => q _ _ T (.v hv av) s1⟩
    · cases e
  · cases e
theorem ia_e (h : IG X e m) (t : IA X es as) (hs : starEach (e :: es) X.env = (false, eval e X.env) :: starEach es X.env) : IA X (e :: es) (.e m :: as) := by
  intro Z Hb H σ δ L rs δ' s e' Q q
  simp only [mArgs] at e'
  split at e'
  · rename_i d δ1 e1
    split at e'
    · rename_i rs' δ2 e2
      cases e'
      refine wA_of (pa_cons pe_w pa_w hs) (h s e1 _ fun v H1 s1 => t s1 e2 _ fun vs H2 T av s2 => q _ _ _ (.e av) (s2.perm ?_))
      exact List.perm_middle
    · cases e'
  · cases e'
end
theorem lend_ok {X : Cx} {Z : Addr → Prop} {Hb H : Hp} {σ : L2.St} : ∀ {rs : List AR} {vs : List V} {T : PL} {δ : Env} {L : PL} {ls : List (D × Option Nat)} {δ1 : Env}, AV σ rs vs T → Sq X Z Hb H σ δ (T ++ L) → lend rs δ = some (ls, δ1) →
    Sq X Z Hb H σ δ1 (vs.zip (ls.map (·.1)) ++ L) ∧ vs.length = ls.length ∧ (∀ (j : Nat) (i : Nat) (d : D), ls[j]? = some (d, some i) → ∃ v, vs[j]? = some v ∧ σ[i]? = some (some v) ∧ i < σ.length)
  | _, _, _, δ, L, ls, δ1, .nil, s, e => by
    cases e
    exact ⟨s, rfl, fun j i d h => by simp at h⟩
  | _, _, _, δ, L, ls, δ1, .v (i := i) (v := v) (rs := rs) (vs := vs) (T := T) hv av, s, e => by
    simp only [lend] at e
    split at e
    · rename_i d hd
      have pm := prs_get hv hd
      split at e
      · rename_i hf
        split at e
        · rename_i ls' δ2 e1
          cases e
          -- a copy goes along as a temporary pair
          have s1 : Sp X.K X.mg Z Hb H ((v, d) :: (T ++ L ++ prs σ (δ.set i none))) := s.sp.perm ((pm.append_left _).trans List.perm_middle)
          have s2 : Sq X Z Hb H σ δ (T ++ ((v, d) :: L)) := ⟨(s1.dup hf).perm (by
            have p1 : List.Perm ((v, d) :: (T ++ L ++ prs σ (δ.set i none))) (T ++ L ++ prs σ δ) := ((pm.append_left (T ++ L)).trans List.perm_middle).symm
            have p2 := p1.cons (v, d)
            refine p2.trans ?_
            (rw [List.append_assoc, List.append_assoc])
            exact List.perm_middle.symm), s.dom⟩
          obtain ⟨s3, hl, hj⟩ := lend_ok av s2 e1
          refine ⟨s3.perm ?_, by simp [hl], fun j i' d' h => ?_⟩
          · show List.Perm _ ((v, d) :: (vs.zip (ls'.map (·.1)) ++ L))
            exact List.perm_middle
          · cases j with
            | zero => simp at h
            | succ j => exact hj j i' d' (by simpa using h)
        · cases e
      · split at e
        · rename_i ls' δ2 e1
          cases e
          have s1 : Sq X Z Hb H σ (δ.set i none) (T ++ ((v, d) :: L)) := ⟨s.sp.perm (by
            have p1 : List.Perm (T ++ L ++ prs σ δ) ((v, d) :: (T ++ L ++ prs σ (δ.set i none))) := (pm.append_left (T ++ L)).trans List.perm_middle
            refine p1.trans ?_
            (rw [List.append_assoc, List.append_assoc])
            exact List.perm_middle.symm), s.dom.drop i⟩
          obtain ⟨s3, hl, hj⟩ := lend_ok av s1 e1
          refine ⟨s3.perm ?_, by simp [hl], fun j i' d' h => ?_⟩
          · show List.Perm _ ((v, d) :: (vs.zip (ls'.map (·.1)) ++ L))
            exact List.perm_middle
          · cases j with
            | zero =>
              simp at h
              obtain ⟨_, rfl⟩ := h
              exact ⟨v, rfl, hv, (List.getElem?_eq_some_iff.mp hv).1⟩
            | succ j => exact hj j i' d' (by simpa using h)
        · cases e
    · cases e
  | _, _, _, δ, L, ls, δ1, .e (d := d) (v := v) (rs := rs) (vs := vs) (T := T) av, s, e => by
    simp only [lend] at e
    split at e
    · rename_i ls' δ2 e1
      cases e
      have s1 : Sq X Z Hb H σ δ (T ++ ((v, d) :: L)) := s.perm List.perm_middle.symm
      obtain ⟨s3, hl, hj⟩ := lend_ok av s1 e1
      refine ⟨s3.perm ?_, by simp [hl], fun j i' d' h => ?_⟩
      · show List.Perm _ ((v, d) :: (vs.zip (ls'.map (·.1)) ++ L))
        exact List.perm_middle
      · cases j with
        | zero => simp at h
        | succ j => exact hj j i' d' (by simpa using h)
    · cases e
theorem restore_ok {X : Cx} {Z : Addr → Prop} {Hb H : Hp} {σ : L2.St} : ∀ {ls : List (D × Option Nat)} {vs : List V} {ds : List D} {δ : Env} {L : PL}, vs.length = ls.length → ds.length = ls.length →
    (∀ (j : Nat) (i : Nat) (d : D), ls[j]? = some (d, some i) → ∃ v, vs[j]? = some v ∧ σ[i]? = some (some v) ∧ i < σ.length) → Sq X Z Hb H σ δ (vs.zip ds ++ L) → Sq X Z Hb H σ (restore ls ds δ) L
  | [], vs, ds, δ, L, hv, hd, _, s => by
    have e1 : vs = [] := List.eq_nil_of_length_eq_zero hv
    have e2 : ds = [] := List.eq_nil_of_length_eq_zero hd
    subst e1 e2
    exact s
  | (d0, o) :: ls, [], _, _, _, hv, _, _, _ => by simp at hv
  | (d0, o) :: ls, _ :: _, [], _, _, _, hd, _, _ => by simp at hd
  | (d0, none) :: ls, v :: vs, d :: ds, δ, L, hv, hd, hj, s => by
    simp only [restore]
    have s' : Sq X Z Hb H σ δ ((v, d) :: (vs.zip ds ++ L)) := s
    exact restore_ok (by simpa using hv) (by simpa using hd) (fun j i d' h => by simpa using hj (j + 1) i d' (by simpa using h)) s'.drop
  | (d0, some i) :: ls, v :: vs, d :: ds, δ, L, hv, hd, hj, s => by
    simp only [restore]
    obtain ⟨v', e1, e2, e3⟩ := hj 0 i d0 rfl
    have e4 : v = v' := by simpa using e1
    subst e4
    refine restore_ok (by simpa using hv) (by simpa using hd) (fun j i d' h => by simpa using hj (j + 1) i d' (by simpa using h)) ?_
    -- the pair goes into its slot (what stood there is given up)
    have hset : σ.set i (some v) = σ := by
      apply List.ext_getElem?
      intro n
      rw [List.getElem?_set]
      by_cases h : i = n
      · subst h; rw [if_pos rfl, if_pos e3, e2]
      · rw [if_neg h]
    have pm := prs_set (σ := σ) (δ := δ) (i := i) (v := v) (d := d) e3 s.dom.1
    rw [hset] at pm
    refine ⟨Sp.perm (P := (v, d) :: (vs.zip ds ++ L ++ prs σ (δ.set i none))) ?_ ?_, ?_⟩
    · -- the slot's old pair is dropped
      have s0 : Sp X.K X.mg Z Hb H ((v, d) :: (vs.zip ds ++ L ++ prs σ δ)) := s.sp
      cases hδ : δ[i]? with
      | none =>
        have : δ.set i none = δ := List.set_eq_of_length_le (by simpa using hδ)
        rw [this]; exact s0
      | some x => cases x with
        | none =>
          have : δ.set i none = δ := by
            apply List.ext_getElem?
            intro n
            rw [List.getElem?_set]
            by_cases h : i = n
            · subst h
              rw [if_pos rfl, hδ, if_pos (List.getElem?_eq_some_iff.mp hδ).1]
            · rw [if_neg h]
          rw [this]; exact s0
        | some dd =>
          have p1 := prs_get e2 hδ
          have s1 : Sp X.K X.mg Z Hb H ((v, dd) :: ((v, d) :: (vs.zip ds ++ L ++ prs σ (δ.set i none)))) := s0.perm (by
            have := (p1.append_left ((v, d) :: (vs.zip ds ++ L))).trans List.perm_middle
            exact this)
          exact s1.drop
    · have := (pm.append_left (vs.zip ds ++ L)).trans List.perm_middle
      exact this.symm
    · have h := s.dom.set i v (some d)
      rw [hset] at h
      exact h
end DL
set_option Elab.async false
set_option linter.all false
set_option maxRecDepth 100000
set_option maxHeartbeats 4000001
namespace DL
open PySem.Spec PySem L2 PyProof.Rows
theorem mCall_of {m : MF} {as : List AS} {dd : List D} {δ δ' : Env} {r : D} (e : mCall m as dd δ = some (r, δ')) : ∃ rs δ1 ls δ2 ds', mArgs as δ = some (rs, δ1) ∧ lend rs δ1 = some (ls, δ2) ∧ m (ls.map (·.1) ++ dd) = some (r, ds') ∧ ds'.length = ls.length + dd.length ∧ δ' = restore ls ds' δ2 := by
  unfold mCall at e
  split at e
  · rename_i rs δ1 e1
    split at e
    · rename_i ls δ2 e2
      split at e
      · rename_i r' ds' e3
        split at e
        · rename_i hl
          cases e
          exact ⟨rs, δ1, ls, δ2, ds', e1, e2, e3, hl, rfl⟩
        · cases e
      · cases e
    · cases e
  · cases e
theorem mArgs_len : ∀ {as : List AS} {δ δ1 : Env} {rs : List AR}, mArgs as δ = some (rs, δ1) → rs.length = as.length
  | [], _, _, _, e => by cases e; rfl
  | .v i :: as, _, _, _, e => by
    simp only [mArgs] at e
    split at e
    · split at e
      · rename_i e4
        cases e
        simp [mArgs_len e4]
      · cases e
    · cases e
  | .e m :: as, _, _, _, e => by
    simp only [mArgs] at e
    split at e
    · split at e
      · rename_i e4
        cases e
        simp [mArgs_len e4]
      · cases e
    · cases e
theorem restore_take : ∀ {ls : List (D × Option Nat)} {ds : List D} {δ : Env} {n : Nat}, ls.length ≤ n → restore ls (ds.take n) δ = restore ls ds δ
  | [], ds, δ, n, _ => by simp [restore]
  | (d, o) :: ls, [], δ, n, _ => by simp
  | (d, o) :: ls, x :: ds, δ, 0, h => by simp at h
  | (d, none) :: ls, x :: ds, δ, n + 1, h => by simp only [List.take_succ_cons, restore]; exact restore_take (by simpa using h)
  | (d, some i) :: ls, x :: ds, δ, n + 1, h => by simp only [List.take_succ_cons, restore]; exact restore_take (by simpa using h)
section
variable {X : Cx} {k : Nat} {f : Addr} {fd : FuncData} {ps : List Str} {n : Nat} {m : MF} {x : Str} {p pos apos : Pos} {e : Expr} {es : List Expr} {as : List AS}
/-- the callee over the caller's state: rs the arguments' results, dd the defaults' trees (closed) -/
theorem call_run {dvs : List V} {dd : List D} {Z : Addr → Prop} {Hb H : Hp} {σ : L2.St} {δ δ2 : Env} {L T : PL} {rs : List AR} {vs : List V} {ls : List (D × Option Nat)} {r : D} {ds' : List D} (hdd : ∀ H Y, Reps X.K X.mg H Y dvs dd []) (hn : rs.length + dd.length = n)
    (av : AV σ rs vs T) (s : Sq X Z Hb H σ δ (T ++ L)) (el : lend rs δ = some (ls, δ2)) (em : m (ls.map (·.1) ++ dd) = some (r, ds')) (hl : ds'.length = ls.length + dd.length)
    (Q : VK) (q : ∀ v H', Sq X Z Hb H' σ (restore ls ds' δ2) ((v, r) :: L) → Q v H') : spD X.K X.mg n m (vs ++ dvs) H Q E0 := by
  obtain ⟨s1, hv, hj⟩ := lend_ok av s el
  have lav : rs.length = vs.length := by
    clear hj hv s1 s el em hl q hn
    induction av with
    | nil => rfl
    | v _ _ ih => simp [ih]
    | e _ ih => simp [ih]
  have ldd : dvs.length = dd.length := (hdd H fun _ => True).len
  have s2 : Sp X.K X.mg Z Hb H (((vs ++ dvs).zip (ls.map (·.1) ++ dd)) ++ (L ++ prs σ δ2)) := by
    rw [zip_append (by simp [hv])]
    have c : Sp X.K X.mg Z Hb H (dvs.zip dd ++ (vs.zip (ls.map (·.1)) ++ L ++ prs σ δ2)) := by
      have h0 := s1.sp
      obtain ⟨⟨F, rr, nd, hb⟩, b, fr⟩ := h0
      exact ⟨⟨F, Rps.append (F := []) (hdd H _).zip rr, nd, hb⟩, b, fr⟩
    refine c.perm ?_
    (rw [List.append_assoc, List.append_assoc])
    exact List.perm_append_comm_assoc _ _ _
  obtain ⟨Z', Hc, sc, back⟩ := s2.lend
  refine ⟨by rw [List.length_append]; omega, Z', Hc, ls.map (·.1) ++ dd, r, ds', by simp; omega, sc, em, fun v H' s' => q v H' ?_⟩
  have s3 := back H' _ s'
  -- the returned trees: the first of them go back, the defaults' are given up
  have hz : (vs ++ dvs).zip ds' = vs.zip (ds'.take ls.length) ++ dvs.zip (ds'.drop ls.length) := by
    conv => lhs; rw [← List.take_append_drop ls.length ds']
    exact zip_append (by simp; omega)
  rw [hz] at s3
  have s4 : Sp X.K X.mg Z Hb H' (dvs.zip (ds'.drop ls.length) ++ ((vs.zip (ds'.take ls.length) ++ ((v, r) :: L)) ++ prs σ δ2)) := s3.perm (by
    (simp only [List.cons_append, List.append_assoc])
    refine List.Perm.trans ?_ (List.perm_append_comm_assoc _ _ _)
    refine List.Perm.trans (List.perm_middle.symm.trans ?_) (List.Perm.refl _)
    (refine List.Perm.append_left _ ?_)
    exact List.perm_middle.symm)
  have s5 : Sq X Z Hb H' σ δ2 (vs.zip (ds'.take ls.length) ++ ((v, r) :: L)) := ⟨s4.dropL, s1.dom⟩
  have s6 := restore_ok (by simpa using hv) (by simp; omega) hj s5
  rw [restore_take (Nat.le_refl _)] at s6
  exact s6
def tCallG (sp : L2.Sp) (dvs : List V) (t : TA) : TE := fun σ H Q => t σ H fun vs H1 => sp (vs ++ dvs) H1 Q E0
theorem pe_callG {sp : L2.Sp} {dvs : List V} {dsv : List Value} (F : FnG X.prog X.w X.K X.mg X.base k f fd ps sp) (hr : Room k X.A) (hg : X.A.guards = some []) (hgl : Gl X x) (hm : X.mg x = some (.ref f)) (hk : PySem.W.keepIn X.K (.ref f) = true) (hb : Binds X.K fd ps dsv) (hd : Vals dvs dsv)
    (hdb : (x == ("__debug__" : Str)) = false) (he : starEach (e :: es) X.env = (false, eval e X.env) :: starEach es X.env) (hpl : (backTo pos (starEach es X.env)).any (·.1) = false) :
    PE X (.Call (.Name x p) (e :: es) [] pos) (tCallG sp dvs (wA X (e :: es))) := by
  refine ⟨fun pins s σ H Q I h => wpAny_Call_Name_kw (ld_glob I hgl hm ?_ hdb)⟩
  refine PySem.W.callWith_K (h₀ := X.base) I.ok.mod.kin hk (thn (h pos pins s I) fun us s1 ⟨vs, H1, I1, r, q⟩ => ⟨I1.kIn, ?_⟩) he hpl
  have r2 : Vals (vs ++ dvs) (us ++ dsv) := r.append hd
  have hl : (us ++ dsv).length = ps.length := by rw [← r2.length]; exact F.len _ _ _ _ q
  refine wpAny_call (codeAny_mono (F.go hr hg I1 (hb s1 us I1.kIn hl) r2 q) fun r s' hq => ?_)
  match r, hq with
  | .ok (.ret u), hq => exact hq
theorem pe_callG0 {sp : L2.Sp} {dvs : List V} {dsv : List Value} (F : FnG X.prog X.w X.K X.mg X.base k f fd ps sp) (hr : Room k X.A) (hg : X.A.guards = some []) (hgl : Gl X x) (hm : X.mg x = some (.ref f)) (hk : PySem.W.keepIn X.K (.ref f) = true) (hb : Binds X.K fd ps dsv) (hd : Vals dvs dsv)
    (hdb : (x == ("__debug__" : Str)) = false) : PE X (.Call (.Name x p) [] [] pos) (fun σ H Q => sp ([] ++ dvs) H Q E0) := by
  refine ⟨fun pins s σ H Q I h => wpAny_Call_Name_kw (ld_glob I hgl hm ?_ hdb)⟩
  refine PySem.W.callWith_K0 I.kIn hk ?_
  have r2 : Vals ([] ++ dvs) ([] ++ dsv) := hd
  have hl : ([] ++ dsv).length = ps.length := by rw [← r2.length]; exact F.len _ _ _ _ h
  refine wpAny_call (codeAny_mono (F.go hr hg I (hb s [] I.kIn hl) r2 h) fun r s' hq => ?_)
  match r, hq with
  | .ok (.ret u), hq => exact hq
/-- f(e, ..), the defaults' trees behind -/
theorem ig_call (dd : List D) {dvs : List V} {dsv : List Value} (F : FnG X.prog X.w X.K X.mg X.base k f fd ps (spD X.K X.mg n m)) (hr : Room k X.A) (hg : X.A.guards = some []) (hgl : Gl X x) (hm : X.mg x = some (.ref f)) (hk : PySem.W.keepIn X.K (.ref f) = true) (hb : Binds X.K fd ps dsv) (hd : Vals dvs dsv)
    (hdd : ∀ H Y, Reps X.K X.mg H Y dvs dd []) (ha : IA X (e :: es) as) (hn : as.length + dd.length = n)
    (hdb : (x == ("__debug__" : Str)) = false) (he : starEach (e :: es) X.env = (false, eval e X.env) :: starEach es X.env) (hpl : (backTo pos (starEach es X.env)).any (·.1) = false) :
    IG X (.Call (.Name x p) (e :: es) [] pos) (mCall m as dd) := by
  intro Z Hb H σ δ L d δ' s e' Q q
  obtain ⟨rs, δ1, ls, δ2, ds', e1, e2, e3, hl, rfl⟩ := mCall_of e'
  refine wE_of (pe_callG F hr hg hgl hm hk hb hd hdb he hpl) ?_
  refine ha s e1 _ fun vs H1 T av s1 => call_run hdd ?_ av s1 e2 e3 hl Q q
  have := mArgs_len e1
  omega
theorem ig_call0 (dd : List D) {dvs : List V} {dsv : List Value} (F : FnG X.prog X.w X.K X.mg X.base k f fd ps (spD X.K X.mg n m)) (hr : Room k X.A) (hg : X.A.guards = some []) (hgl : Gl X x) (hm : X.mg x = some (.ref f)) (hk : PySem.W.keepIn X.K (.ref f) = true) (hb : Binds X.K fd ps dsv) (hd : Vals dvs dsv)
    (hdd : ∀ H Y, Reps X.K X.mg H Y dvs dd []) (hn : dd.length = n) (hdb : (x == ("__debug__" : Str)) = false) : IG X (.Call (.Name x p) [] [] pos) (mCall m [] dd) := by
  intro Z Hb H σ δ L d δ' s e' Q q
  obtain ⟨rs, δ1, ls, δ2, ds', e1, e2, e3, hl, rfl⟩ := mCall_of e'
  cases e1
  refine wE_of (pe_callG0 F hr hg hgl hm hk hb hd hdb) ?_
  exact call_run (T := []) hdd (by simpa using hn) .nil s e2 e3 hl Q q
end
end DL
namespace DL
open PySem.Spec PySem L2 PyProof.Rows
inductive Fl where
  | nx (δ : Env)
  | rt (d : D) (δ : Env)
  | bk (δ : Env)
  | ct (δ : Env)
abbrev MS := Env → Option Fl
def SameP (P : Nat → Bool) (σ σ' : L2.St) : Prop := ∀ i, P i = true → σ'[i]? = σ[i]?
theorem SameP.refl {P : Nat → Bool} {σ : L2.St} : SameP P σ σ := fun _ _ => rfl
theorem SameP.trans {P : Nat → Bool} {σ σ1 σ2 : L2.St} (a : SameP P σ σ1) (b : SameP P σ1 σ2) : SameP P σ σ2 := fun i h => (b i h).trans (a i h)
theorem SameP.set {P : Nat → Bool} {σ : L2.St} {i : Nat} (h : P i = false) (x : Option V) : SameP P σ (σ.set i x) := fun j hj => by
  have : i ≠ j := fun e => by subst e; rw [h] at hj; cases hj
  rw [List.getElem?_set_ne this]
def Fin (X : Cx) (P : Nat → Bool) (Z : Addr → Prop) (Hb : Hp) (σ : L2.St) (L : PL) (Dn : Ends) : Fl → Prop
  | .nx δ' => ∀ σ' H', Sq X Z Hb H' σ' δ' L → SameP P σ σ' → Dn.nx σ' H'
  | .bk δ' => ∀ σ' H', Sq X Z Hb H' σ' δ' L → SameP P σ σ' → Dn.bk σ' H'
  | .ct δ' => ∀ σ' H', Sq X Z Hb H' σ' δ' L → SameP P σ σ' → Dn.ct σ' H'
  | .rt d δ' => ∀ v σ' H', Sq X Z Hb H' σ' δ' ((v, d) :: L) → SameP P σ σ' → Dn.rt v H'
def IS (X : Cx) (P : Nat → Bool) (st : Stmt) (m : MS) : Prop := ∀ {Z : Addr → Prop} {Hb H : Hp} {σ : L2.St} {δ : Env} {L : PL} {fl : Fl}, Sq X Z Hb H σ δ L → m δ = some fl → ∀ Dn : Ends, Fin X P Z Hb σ L Dn fl → wS X st Dn σ H
def ISs (X : Cx) (P : Nat → Bool) (sts : List Stmt) (m : MS) : Prop := ∀ {Z : Addr → Prop} {Hb H : Hp} {σ : L2.St} {δ : Env} {L : PL} {fl : Fl}, Sq X Z Hb H σ δ L → m δ = some fl → ∀ Dn : Ends, Fin X P Z Hb σ L Dn fl → wSs X sts Dn σ H
def sNil : MS := fun δ => some (.nx δ)
def sCons (a b : MS) : MS := fun δ => match a δ with
  | some (.nx δ1) => b δ1
  | r => r
def sExpr (m : ME) : MS := fun δ => match m δ with
  | some (_, δ1) => some (.nx δ1)
  | none => none
def sSet (i : Nat) (m : ME) : MS := fun δ => match m δ with
  | some (d, δ1) => if i < δ1.length then some (.nx (δ1.set i (some d))) else none
  | none => none
def sRet (m : ME) : MS := fun δ => match m δ with
  | some (d, δ1) => some (.rt d δ1)
  | none => none
def sRetN : MS := fun δ => some (.rt .non δ)
def sIf (t : MT) (a b : MS) : MS := fun δ => match t δ with
  | some (true, δ1) => a δ1
  | some (false, δ1) => b δ1
  | none => none
def sBreak : MS := fun δ => some (.bk δ)
def sCont : MS := fun δ => some (.ct δ)
section
variable {X : Cx} {P : Nat → Bool} {st : Stmt} {sts ts us : List Stmt} {a b : MS} {e c : Expr} {m : ME} {t : MT} {pos : Pos}
theorem Fin.mono {Z : Addr → Prop} {Hb : Hp} {σ σ' : L2.St} {L : PL} {Dn : Ends} {fl : Fl} (h : Fin X P Z Hb σ L Dn fl) (hs : SameP P σ σ') : Fin X P Z Hb σ' L Dn fl := by
  cases fl with
  | nx δ => exact fun σ2 H s q => h σ2 H s (hs.trans q)
  | bk δ => exact fun σ2 H s q => h σ2 H s (hs.trans q)
  | ct δ => exact fun σ2 H s q => h σ2 H s (hs.trans q)
  | rt d δ => exact fun v σ2 H s q => h v σ2 H s (hs.trans q)
theorem iss_nil : ISs X P [] sNil := by
  intro Z Hb H σ δ L fl s e Dn f
  cases e
  exact wSs_of pss_nil (f σ H s .refl)
theorem iss_cons (h : IS X P st a) (t : ISs X P sts b) : ISs X P (st :: sts) (sCons a b) := by
  intro Z Hb H σ δ L fl s e Dn f
  refine wSs_of (pss_cons ps_w pss_w) ?_
  show wS X st { Dn with nx := wSs X sts Dn } σ H
  unfold sCons at e
  split at e
  · rename_i δ1 e1
    exact h s e1 _ fun σ' H' s' q => t s' e Dn (f.mono q)
  · rename_i hn
    refine h s e _ ?_
    cases fl with
    | nx δ => exact absurd e (hn δ)
    | bk δ => exact f
    | ct δ => exact f
    | rt d δ => exact f
theorem iss_one (h : IS X P st a) : ISs X P [st] a := by
  intro Z Hb H σ δ L fl s e Dn f
  exact wSs_of (pss_one ps_w) (h s e Dn f)
theorem is_ret (h : IG X e m) : IS X P (.Return (some e) pos) (sRet m) := by
  intro Z Hb H σ δ L fl s e' Dn f
  unfold sRet at e'
  split at e'
  · rename_i d δ1 e1
    cases e'
    exact wS_of (ps_ret pe_w) (h s e1 _ fun v H' s' => f v σ H' s' .refl)
  · cases e'
theorem is_if (hc : IT X c t) (ha : ISs X P ts a) (hb : ISs X P us b) : IS X P (.If c ts us pos) (sIf t a b) := by
  intro Z Hb H σ δ L fl s e' Dn f
  refine wS_of (ps_if pt_w pss_w pss_w) ?_
  unfold sIf at e'
  split at e'
  · rename_i δ1 e1
    refine hc s e1 _ fun H1 s1 => ?_
    rw [if_pos rfl]
    exact ha s1 e' Dn f
  · rename_i δ1 e1
    refine hc s e1 _ fun H1 s1 => ?_
    (rw [if_neg Bool.false_ne_true])
    exact hb s1 e' Dn f
  · cases e'
/-- a temporary pair goes into a slot -/
theorem Sq.store {Z : Addr → Prop} {Hb H : Hp} {σ : L2.St} {δ : Env} {L : PL} {v : V} {d : D} {i : Nat} (s : Sq X Z Hb H σ δ ((v, d) :: L)) (hi : i < δ.length) : Sq X Z Hb H (σ.set i (some v)) (δ.set i (some d)) L := by
  have hl := s.dom.1
  have pm := prs_set (σ := σ) (δ := δ) (i := i) (v := v) (d := d) (by omega) hl
  refine ⟨?_, s.dom.set i v _⟩
  -- what stood there is given up
  have s0 : Sp X.K X.mg Z Hb H ((v, d) :: (L ++ prs σ (δ.set i none))) := by
    have s1 : Sp X.K X.mg Z Hb H ((v, d) :: (L ++ prs σ δ)) := s.sp
    cases hδ : δ[i]? with
    | none => exact absurd hδ (by simp [hi])
    | some x => cases x with
      | none =>
        have : δ.set i none = δ := by
          apply List.ext_getElem?
          intro n
          rw [List.getElem?_set]
          by_cases h : i = n
          · subst h; rw [if_pos rfl, hδ, if_pos hi]
          · rw [if_neg h]
        rw [this]; exact s1
      | some dd =>
        obtain ⟨w, hw⟩ := s.dom.2 i dd hδ
        have p1 := prs_get hw hδ
        have s2 : Sp X.K X.mg Z Hb H ((w, dd) :: ((v, d) :: (L ++ prs σ (δ.set i none)))) := s1.perm (by
          have := (p1.append_left ((v, d) :: L)).trans List.perm_middle
          exact this)
        exact s2.drop
  exact s0.perm ((pm.append_left L).trans List.perm_middle).symm
theorem is_set {x : Str} {pos' : Pos} (i : Nat) (hP : P i = false) (hN : X.N.Nodup) (hi : X.N[i]? = some x) (hx : Loc X.env.scope x) (h : IG X e m) (hs : swapsWith e (some (.Name x pos')) pos.line X.env = pure false) (hf : X.fn x = true ∨ X.env.scope.names.lookup x = some .local) :
    IS X P (.Assign [.Name x pos'] e pos) (sSet i m) := by
  intro Z Hb H σ δ L fl s e' Dn f
  unfold sSet at e'
  split at e'
  · rename_i d δ1 e1
    split at e'
    · rename_i hl
      cases e'
      exact wS_of (ps_set hN hi hx pe_w hs hf) (h s e1 _ fun v H' s' => f _ H' (s'.store hl) (.set hP _))
    · cases e'
  · cases e'
/-- a, b = x, y -/
def sPar (is : List Nat) (r : ML) : MS := fun δ => match r δ with
  | some (ds, δ1) => if ds.length = is.length ∧ (∀ i ∈ is, i < δ1.length) then some (.nx ((is.zip ds).foldl (fun δ p => δ.set p.1 (some p.2)) δ1)) else none
  | none => none
theorem is_par {es : List Expr} {r : ML} {i j : Nat} {x y : Str} {px py pt : Pos} {kt k2 pt2} {ea eb : Expr} (hPi : P i = false) (hPj : P j = false) (hc : X.calm = true) (hN : X.N.Nodup) (hi : X.N[i]? = some x) (hj : X.N[j]? = some y) (hij : i ≠ j)
    (hx : X.env.scope.names.lookup x = some .local) (hy : X.env.scope.names.lookup y = some .local) (h : IL X [ea, eb] r)
    (hw : swappedStores [.Tuple [.Name x px, .Name y py] kt pt] (.Tuple [ea, eb] k2 pt2) X.env = pure (some [x, y]))
    (hs : swapsWithSole [.Tuple [.Name x px, .Name y py] kt pt] (.Tuple [ea, eb] k2 pt2) pos.line X.env = pure false) :
    IS X P (.Assign [.Tuple [.Name x px, .Name y py] kt pt] (.Tuple [ea, eb] k2 pt2) pos) (sPar [i, j] r) := by
  intro Z Hb H σ δ L fl s e' Dn f
  unfold sPar at e'
  split at e'
  · rename_i ds δ1 e1
    split at e'
    · rename_i hl
      obtain ⟨hl, hb⟩ := hl
      match ds, hl with
      | [d1, d2], _ =>
        cases e'
        refine wS_of (ps_par hc hN hi hj hij hx hy pa_w hw hs) (h s e1 _ fun vs H' hv s' => ?_)
        match vs, hv with
        | [v1, v2], _ =>
          have s2 : Sq X Z Hb H' (σ.set i (some v1)) (δ1.set i (some d1)) ((v2, d2) :: L) := Sq.store (v := v1) (d := d1) s' (hb i (by simp))
          exact ⟨v1, v2, rfl, f _ H' (s2.store (by simpa using hb j (by simp))) ((SameP.set hPi _).trans (SameP.set hPj _))⟩
    · cases e'
  · cases e'
end
/-- slots that are parameters and never stored come back; the others must have come frozen -/
def backs (P : Nat → Bool) : Nat → List D → Env → Option (List D)
  | _, [], _ => some []
  | i, d :: ds, δ => match backs P (i + 1) ds δ with
    | some r => if P i then match δ[i]? with
        | some (some d') => some (d' :: r)
        | _ => none
      else if isFz d then some (d :: r) else none
    | none => none
def mFun (np N : Nat) (P : Nat → Bool) (mb : MS) : MF := fun ds => if ds.length = np then match mb (ds.map some ++ List.replicate (N - np) none) with
  | some (.rt r δ) => match backs P 0 ds δ with
    | some bs => some (r, bs)
    | none => none
  | some (.nx δ) => match backs P 0 ds δ with
    | some bs => some (.non, bs)
    | none => none
  | _ => none else none
theorem backs_ok {X : Cx} {P : Nat → Bool} {Z : Addr → Prop} {Hb H : Hp} {σ0 σ : L2.St} : ∀ {ds : List D} {vs : List V} {i : Nat} {δ : Env} {L R : PL} {bs : List D}, vs.length = ds.length → (∀ j v, vs[j]? = some v → σ0[i + j]? = some (some v)) → SameP P σ0 σ →
    Dom σ δ → Sp X.K X.mg Z Hb H (L ++ (prs σ δ ++ ((vs.zip ds).filter fun p => isFz p.2) ++ R)) → backs P i ds δ = some bs → Sp X.K X.mg Z Hb H (L ++ (vs.zip bs ++ R))
  | [], vs, i, δ, L, R, bs, hl, _, _, _, s, e => by
    cases e
    have : vs = [] := List.eq_nil_of_length_eq_zero hl
    subst this
    have s1 : Sp X.K X.mg Z Hb H (prs σ δ ++ (L ++ R)) := s.perm (by
      simp only [List.zip_nil_left, List.filter_nil, List.append_nil]
      exact List.perm_append_comm_assoc _ _ _)
    simpa using s1.dropL
  | d :: ds, [], _, _, _, _, _, hl, _, _, _, _, _ => by simp at hl
  | d :: ds, v :: vs, i, δ, L, R, bs, hl, h0, sp, dm, s, e => by
    simp only [backs] at e
    have step : ∀ {δ' : Env} {L' : PL} {r : List D}, Dom σ δ' → Sp X.K X.mg Z Hb H (L' ++ (prs σ δ' ++ ((vs.zip ds).filter fun p => isFz p.2) ++ R)) → backs P (i + 1) ds δ' = some r → Sp X.K X.mg Z Hb H (L' ++ (vs.zip r ++ R)) :=
      fun hd hs he => backs_ok (by simpa using hl) (fun j v' h => by have := h0 (j + 1) v' (by simpa using h); rw [← this]; congr 1; omega) sp hd hs he
    split at e
    · rename_i r er
      split at e
      · rename_i hP
        split at e
        · rename_i d' hd'
          cases e
          have hv : σ[i]? = some (some v) := by rw [sp i hP]; exact h0 0 v rfl
          have pm := prs_get hv hd'
          -- the slot's own pair is taken out; backs of the rest does not ask it
          have er' : backs P (i + 1) ds (δ.set i none) = some r := by
            have : ∀ (ds : List D) (j : Nat), i < j → backs P j ds (δ.set i none) = backs P j ds δ := by
              intro ds
              induction ds with
              | nil => intro j _; rfl
              | cons x ds ih =>
                intro j hj
                simp only [backs, ih (j + 1) (by omega), List.getElem?_set_ne (show i ≠ j by omega)]
            rw [this ds (i + 1) (by omega)]; exact er
          have s1 : Sp X.K X.mg Z Hb H (((v, d') :: L) ++ (prs σ (δ.set i none) ++ ((vs.zip ds).filter fun p => isFz p.2) ++ R)) := by
            have base : Sp X.K X.mg Z Hb H (((v, d') :: L) ++ (prs σ (δ.set i none) ++ (((v :: vs).zip (d :: ds)).filter fun p => isFz p.2) ++ R)) := s.perm (by
              have q1 := pm.append_right ((((v :: vs).zip (d :: ds)).filter fun p => isFz p.2) ++ R)
              rw [← List.append_assoc] at q1
              refine (q1.append_left L).trans ?_
              (simp only [List.cons_append, List.append_assoc])
              exact List.perm_middle)
            by_cases hf : isFz d = true
            · have hz : (((v :: vs).zip (d :: ds)).filter fun p => isFz p.2) = (v, d) :: ((vs.zip ds).filter fun p => isFz p.2) := by
                simp [hf]
              rw [hz] at base
              have b2 : Sp X.K X.mg Z Hb H ((v, d) :: (((v, d') :: L) ++ (prs σ (δ.set i none) ++ ((vs.zip ds).filter fun p => isFz p.2) ++ R))) := base.perm (by
                have : List.Perm (prs σ (δ.set i none) ++ ((v, d) :: ((vs.zip ds).filter fun p => isFz p.2)) ++ R) ((v, d) :: (prs σ (δ.set i none) ++ ((vs.zip ds).filter fun p => isFz p.2) ++ R)) := by
                  (rw [List.append_assoc, List.append_assoc])
                  exact List.perm_middle
                exact (this.append_left _).trans List.perm_middle)
              exact b2.drop
            · have hz : (((v :: vs).zip (d :: ds)).filter fun p => isFz p.2) = ((vs.zip ds).filter fun p => isFz p.2) := by
                simp [hf]
              rw [hz] at base
              exact base
          have s2 := step (dm.drop i) s1 er'
          refine s2.perm ?_
          show List.Perm ((v, d') :: (L ++ (vs.zip r ++ R))) (L ++ ((v, d') :: (vs.zip r ++ R)))
          exact List.perm_middle.symm
        · cases e
      · split at e
        · rename_i hf
          cases e
          have hz : (((v :: vs).zip (d :: ds)).filter fun p => isFz p.2) = (v, d) :: ((vs.zip ds).filter fun p => isFz p.2) := by
            simp [hf]
          rw [hz] at s
          have s1 : Sp X.K X.mg Z Hb H (((v, d) :: L) ++ (prs σ δ ++ ((vs.zip ds).filter fun p => isFz p.2) ++ R)) := s.perm (by
            have : List.Perm (prs σ δ ++ ((v, d) :: ((vs.zip ds).filter fun p => isFz p.2)) ++ R) ((v, d) :: (prs σ δ ++ ((vs.zip ds).filter fun p => isFz p.2) ++ R)) := by
              (rw [List.append_assoc, List.append_assoc])
              exact List.perm_middle
            exact (this.append_left _).trans List.perm_middle)
          have s2 := step dm s1 er
          refine s2.perm ?_
          show List.Perm ((v, d) :: (L ++ (vs.zip r ++ R))) (L ++ ((v, d) :: (vs.zip r ++ R)))
          exact List.perm_middle.symm
        · cases e
    · cases e
end DL
namespace DL
open PySem.Spec PySem L2 PyProof.Rows
theorem Sp.dups {K : PySem.W.Frag} {mg : Str → Option Value} {H Hb : Hp} {Z : Addr → Prop} {Q : PL} (s : Sp K mg Z Hb H Q) : Sp K mg Z Hb H ((Q.filter fun p => isFz p.2) ++ Q) := by
  obtain ⟨⟨F, r, nd, hb⟩, b, fr⟩ := s
  refine ⟨⟨F, ?_, nd, hb⟩, b, fr⟩
  have : ∀ {Q : PL} {F : List Addr} {Y : Addr → Prop}, Rps K mg H Y Q F → Rps K mg H Y (Q.filter fun p => isFz p.2) [] := by
    intro Q F Y r
    induction r with
    | nil => exact .nil
    | @cons v d P F G q t ih =>
      by_cases hf : isFz d = true
      · have e := q.own_nil hf
        subst e
        rw [List.filter_cons_of_pos (by exact hf)]
        exact .cons (F := []) q ih
      · rw [List.filter_cons_of_neg (by exact hf)]
        exact ih
  exact Rps.append (F := []) (this r) r
theorem prs_start : ∀ {vs : List V} {ds : List D} (k j : Nat), vs.length = ds.length → prs (vs.map some ++ List.replicate k none) (ds.map some ++ List.replicate j none) = vs.zip ds
  | [], [], k, j, _ => by
    cases k with
    | zero => simp [prs]
    | succ k => cases j with
      | zero => simp [prs]
      | succ j =>
        have ih := prs_start (vs := []) (ds := []) k j rfl
        simpa [List.replicate_succ, prs] using ih
  | [], _ :: _, _, _, h => by simp at h
  | _ :: _, [], _, _, h => by simp at h
  | v :: vs, d :: ds, k, j, h => by
    have ih := prs_start (vs := vs) (ds := ds) k j (by simpa using h)
    simp [prs, ih]
section
variable {P : Program} {w : World} {K : PySem.W.Frag} {mg : Str → Option Value} {base : Heap} {k : Nat} {f : Addr} {x qual : Str} {params : Arguments} {body : List Stmt} {scope : Scope} {dvs : List V} {kws : List (Str × V)} {fd : FuncData} {N ps : List Str} {Pr : Nat → Bool} {mb : MS}
theorem fnD_of (F : FunD K x qual params body scope dvs kws f fd) (S : FnScope N ps scope)
    (hb : ∀ (cdv : Value) (A : Around) (outer : List PySem.Env) (s : Shared) (H : Hp) (E : XK), Room k (A.deeper (envOfC qual scope s.heap.objs.size f cdv)) → (A.deeper (envOfC qual scope s.heap.objs.size f cdv)).guards = some [] →
      ISs (cxOf CX0 P w K mg base N qual scope f cdv A outer s H E).nox Pr body mb) : FnG P w K mg base (k + 1) f fd ps (spD K mg ps.length (mFun ps.length N.length Pr mb)) := by
  refine FnG.of F S (fun vs H Q E h => h.1) fun cdv A outer s H vs Q E hr hg ⟨hl, Z, Hb, ds, r, ds', hld, sp, em, q⟩ => ?_
  unfold mFun at em
  rw [if_pos hld] at em
  have hN : ps.length ≤ N.length := by
    have := congrArg List.length S.pre
    rw [List.length_take] at this
    omega
  have hlv : vs.length = ds.length := by omega
  have dom : Dom (L2.start N vs) (ds.map some ++ List.replicate (N.length - ps.length) none) := by
    refine ⟨by simp [L2.start]; omega, fun i d h => ?_⟩
    unfold L2.start
    by_cases hi : i < ds.length
    · exact ⟨vs[i]'(by omega), by rw [List.getElem?_append_left (by simp; omega)]; simp [hlv, hi]⟩
    · rw [List.getElem?_append_right (by simp; omega)] at h
      simp [List.getElem?_replicate] at h
  have sq : Sq (cxOf CX0 P w K mg base N qual scope f cdv A outer s H E).nox Z Hb H (L2.start N vs) (ds.map some ++ List.replicate (N.length - ps.length) none) ((vs.zip ds).filter fun p => isFz p.2) := by
    refine ⟨?_, dom⟩
    unfold L2.start
    rw [prs_start _ _ hlv]
    exact sp.dups
  have fin : ∀ {v : V} {r0 : D} {σ' : L2.St} {H' : Hp} {δ : Env} {bs : List D}, Sq (cxOf CX0 P w K mg base N qual scope f cdv A outer s H E).nox Z Hb H' σ' δ ((v, r0) :: ((vs.zip ds).filter fun p => isFz p.2)) → SameP Pr (L2.start N vs) σ' → backs Pr 0 ds δ = some bs → Sp K mg Z Hb H' ((v, r0) :: vs.zip bs) := by
    intro v r0 σ' H' δ bs s' same eb
    have s1 : Sp K mg Z Hb H' ([(v, r0)] ++ (prs σ' δ ++ ((vs.zip ds).filter fun p => isFz p.2) ++ [])) := s'.sp.perm (by
      rw [List.append_nil]
      exact List.Perm.cons _ List.perm_append_comm)
    have := backs_ok (X := (cxOf CX0 P w K mg base N qual scope f cdv A outer s H E).nox) (L := [(v, r0)]) (R := []) hlv (fun j v' h => by
      unfold L2.start
      rw [List.getElem?_append_left (by have := (List.getElem?_eq_some_iff.mp h).1; simp; omega)]
      simp [h]) same s'.dom s1 eb
    simp only [List.append_nil] at this
    exact this
  split at em
  · rename_i r0 δ e1
    split at em
    · rename_i bs eb
      cases em
      exact hb cdv A outer s H E hr hg sq e1 _ fun v σ' H' s' same => q v H' (fin s' same eb)
    · cases em
  · rename_i δ e1
    split at em
    · rename_i bs eb
      cases em
      refine hb cdv A outer s H E hr hg sq e1 _ fun σ' H' s' same => q .non H' (fin (s'.put fun _ => .non) same eb)
    · cases em
  · cases em
end
end DL
set_option Elab.async false
set_option linter.all false
set_option maxRecDepth 100000
set_option maxHeartbeats 4000001
namespace DL
open PySem.Spec PySem L2 PyProof.Rows
/-- the iterator J yields the trees ds, one a turn, while LI stands -/
def Yields (X : Cx) (Hb : Hp) (J : It) (ds : List D) (LI : PL) : Prop := ∀ {Z : Addr → Prop} {H : Hp} {P : PL} (i : Nat), Sp X.K X.mg Z Hb H (LI ++ P) →
  (i < ds.length → J.go i H ∧ ∀ x H', J.yld i H x H' → ∃ d, ds[i]? = some d ∧ Sp X.K X.mg Z Hb H' ((x, d) :: (LI ++ P))) ∧ (ds.length ≤ i → J.stop i H)
abbrev MI := Env → Option (List D × Env)
def II (X : Cx) (tg iter : Expr) (m : MI) : Prop := ∀ {Z : Addr → Prop} {Hb H : Hp} {σ : L2.St} {δ : Env} {L : PL} {ds : List D} {δ' : Env}, Sq X Z Hb H σ δ L → m δ = some (ds, δ') →
  ∀ R : It → Hp → Prop, (∀ J H' LI, Yields X Hb J ds LI → Sq X Z Hb H' σ δ' (LI ++ L) → R J H') → wI X tg iter σ H R
/-- a value that is walked: its items, frozen -/
def itemsD : D → Option (List D)
  | .lst _ ds => some (fzs ds)
  | .scr ds => some (fzs ds)
  | _ => none
def iLst (m : ME) : MI := fun δ => match m δ with
  | some (d, δ1) => match itemsD d with
    | some ds => some (ds, δ1)
    | none => none
  | none => none
def iTup (m : ME) : MI := fun δ => match m δ with
  | some (.tup ds, δ1) => some (fzs ds, δ1)
  | _ => none
def iTxt (m : ME) : MI := fun δ => match m δ with
  | some (.str x, δ1) => some (x.cps.toList.map fun c => .str ⟨#[c]⟩, δ1)
  | _ => none
/-- a, a + 1, .. (n of them) -/
def rngD (a : Int) (n : Nat) : List D := (List.range n).map fun (i : Nat) => D.int (a + (i : Int))
def mRng1 (r : ML) : MI := fun δ => match r δ with
  | some ([.int n], δ1) => if -(2 ^ 62) ≤ n ∧ n < 2 ^ 62 then some (rngD 0 n.toNat, δ1) else none
  | _ => none
section
variable {X : Cx} {tg iter a b : Expr} {m : ME} {p pos : Pos} {r : ML}
theorem yields_lst {Hb : Hp} {a : Addr} {ds : List D} (hf : isFzs ds = true) : Yields X Hb (Itl X.K a) ds [(.ref a, .lst false ds)] := by
  intro Z H P i s
  have s0 : Sp X.K X.mg Z Hb H ((.ref a, .lst false ds) :: P) := s
  obtain ⟨Y, F, q⟩ := s0.head
  cases q with
  | @lstF _ vs _ h z t =>
    have hl := t.len
    refine ⟨fun hi => ⟨⟨vs, vs[i]'(by omega), .of h, by simp [hl, hi]⟩, fun x H' y => ?_⟩, fun hi => ⟨vs, .of h, by omega⟩⟩
    obtain ⟨e, y⟩ := y
    subst e
    have ex := y vs (.of h)
    refine ⟨ds[i], by simp [hi], s0.part (by simpa [isFz] using hf) fun Y' r' => ?_⟩
    cases r' with
    | @lstF _ vs' _ h' z' t' =>
      have e := h.symm.trans h'
      cases e
      obtain ⟨w, e1, e2⟩ := Reps.get t' (i := i) (d := ds[i]) (by simp [hi])
      rw [ex] at e1
      cases e1
      exact e2
theorem yields_scr {Hb : Hp} {a : Addr} {ds : List D} (hf : isFzs ds = true) : Yields X Hb (Itl X.K a) ds [(.ref a, .scr ds)] := by
  intro Z H P i s
  have s0 : Sp X.K X.mg Z Hb H ((.ref a, .scr ds) :: P) := s
  obtain ⟨Y, F, q⟩ := s0.head
  cases q with
  | @scr _ vs _ h t =>
    have hl := t.len
    have hq : SqL X.K H a vs := h.sq
    refine ⟨fun hi => ⟨⟨vs, vs[i]'(by omega), hq, by simp [hl, hi]⟩, fun x H' y => ?_⟩, fun hi => ⟨vs, hq, by omega⟩⟩
    obtain ⟨e, y⟩ := y
    subst e
    refine ⟨ds[i], by simp [hi], s0.part (by simpa [isFz] using hf) fun Y' r' => ?_⟩
    cases r' with
    | @scr _ vs' _ h' t' =>
      have ex := y vs' h'.sq
      obtain ⟨w, e1, e2⟩ := Reps.get t' (i := i) (d := ds[i]) (by simp [hi])
      rw [ex] at e1
      cases e1
      exact e2
theorem ii_lst (h : IG X iter m) : II X tg iter (iLst m) := by
  intro Z Hb H σ δ L ds δ' s e R q
  unfold iLst at e
  split at e
  · rename_i d δ1 e1
    split at e
    · rename_i ds0 e2
      cases e
      refine wI_of (pi_list pe_w) (h s e1 _ fun v H1 s1 => ?_)
      unfold itemsD at e2
      split at e2
      · rename_i o es
        cases e2
        have s2 := Sp.freeze s1.sp
        obtain ⟨a, vs, rfl, ha, _, _⟩ := s2.lst
        exact ⟨a, rfl, ⟨vs, .of ha⟩, q _ _ [(.ref a, .lst false (fzs es))] (yields_lst (isFzs_fzs _)) ⟨s2, s1.dom⟩⟩
      · rename_i es
        cases e2
        have s2 := Sp.freeze s1.sp
        obtain ⟨a, vs, rfl, ha, _⟩ := s2.scr
        exact ⟨a, rfl, ⟨vs, ha.sq⟩, q _ _ [(.ref a, .scr (fzs es))] (yields_scr (isFzs_fzs _)) ⟨s2, s1.dom⟩⟩
      · cases e2
    · cases e
  · cases e
theorem ii_tup (h : IG X iter m) : II X tg iter (iTup m) := by
  intro Z Hb H σ δ L ds δ' s e R q
  unfold iTup at e
  split at e
  · rename_i es δ1 e1
    cases e
    refine wI_of (pi_tup pe_w) (h s e1 _ fun v H1 s1 => ?_)
    have s2 := Sp.freeze s1.sp
    obtain ⟨a, vs, rfl, ha, _, _⟩ := s2.tup
    refine ⟨a, rfl, ⟨vs, ha⟩, q _ _ [(.ref a, .tup (fzs es))] ?_ ⟨s2, s1.dom⟩⟩
    intro Z H P i s
    have s0 : Sp X.K X.mg Z Hb H ((.ref a, .tup (fzs es)) :: P) := s
    obtain ⟨Y, F, q⟩ := s0.head
    cases q with
    | @tup _ vs _ _ h t =>
      have hl := t.len
      refine ⟨fun hi => ⟨⟨vs, vs[i]'(by omega), h, by simp [hl, hi]⟩, fun x H' y => ?_⟩, fun hi => ⟨vs, h, by omega⟩⟩
      obtain ⟨e, y⟩ := y
      subst e
      refine ⟨(fzs es)[i], by simp [hi], s0.part (isFzs_fzs es) fun Y' r' => ?_⟩
      cases r' with
      | @tup _ vs' _ _ h' t' =>
        have ex := y vs' h'
        obtain ⟨w, e1, e2⟩ := Reps.get t' (i := i) (d := (fzs es)[i]) (by simp [hi])
        rw [ex] at e1
        cases e1
        exact e2
  · cases e
theorem ii_txt (h : IG X iter m) : II X tg iter (iTxt m) := by
  intro Z Hb H σ δ L ds δ' s e R q
  unfold iTxt at e
  split at e
  · rename_i x δ1 e1
    cases e
    refine wI_of (pi_str pe_w) (h s e1 _ fun v H1 s1 => ⟨x, s1.sp.str, q _ _ [] ?_ s1.drop⟩)
    intro Z H P i s
    refine ⟨fun hi => ⟨(show i < x.cps.size by simpa using hi), fun v H' y => ?_⟩, fun hi => (show x.cps.size ≤ i by simpa using hi)⟩
    obtain ⟨e, c, e1, e2⟩ := y
    subst e e2
    refine ⟨.str ⟨#[c]⟩, ?_, s.put fun _ => .str⟩
    rw [List.getElem?_map, Array.getElem?_toList, e1]; rfl
  · cases e
theorem yields_rng {Hb : Hp} {lo : Int} {n : Nat} : Yields X Hb (Itr lo n) (rngD lo n) [] := by
  intro Z H P i s
  refine ⟨fun hi => ⟨(show i < n by simpa [rngD] using hi), fun v H' y => ?_⟩, fun hi => (show n ≤ i by simpa [rngD] using hi)⟩
  obtain ⟨e, e1⟩ := y
  subst e e1
  refine ⟨.int (lo + i), ?_, s.put fun _ => .int⟩
  unfold rngD
  rw [List.getElem?_map, List.getElem?_range (by simpa [rngD] using hi)]; rfl
theorem ii_rng1 (hg : Gl X "range") (hm : X.mg "range" = none) (ha : IL X [a] r) (hs : starEach [a] X.env = [(false, eval a X.env)]) :
    II X tg (.Call (.Name "range" p) [a] [] pos) (mRng1 r) := by
  intro Z Hb H σ δ L ds δ' s e R q
  refine wI_of (pi_range1 (ta := wA X [a]) hg hm pa_w hs) ?_
  unfold mRng1 at e
  split at e
  · rename_i n δ1 e1
    split at e
    · rename_i hb
      cases e
      refine ha s e1 _ fun vs H1 hl s1 => ?_
      match vs, hl with
      | [v], _ =>
        have s2 : Sq X Z Hb H1 σ δ' ((v, .int n) :: L) := s1
        exact ⟨n, by rw [s2.sp.int], hb.1, hb.2, q _ _ [] yields_rng s2.drop⟩
    · cases e
  · cases e
end
abbrev MG := D → Env → Option Env
/-- what a target stores lies in the slots is -/
def Only' (is : List Nat) (σ σ' : L2.St) : Prop := σ'.length = σ.length ∧ ∀ i, i ∉ is → σ'[i]? = σ[i]?
def IGt (X : Cx) (is : List Nat) (tg : Expr) (t : MG) : Prop := ∀ {Z : Addr → Prop} {Hb H : Hp} {σ : L2.St} {δ : Env} {L : PL} {v : V} {d : D} {δ' : Env}, Sq X Z Hb H σ δ ((v, d) :: L) → t d δ = some δ' →
  ∀ Q : L2.St → Hp → Prop, (∀ σ' H', Sq X Z Hb H' σ' δ' L → Only' is σ σ' → Q σ' H') → wG X tg v σ H Q
abbrev MGs := List D → Env → Option Env
def IGts (X : Cx) (is : List Nat) (ts : List Expr) (t : MGs) : Prop := ∀ {Z : Addr → Prop} {Hb H : Hp} {σ : L2.St} {δ : Env} {L : PL} {vs : List V} {ds : List D} {δ' : Env}, vs.length = ds.length → Sq X Z Hb H σ δ (vs.zip ds ++ L) → t ds δ = some δ' →
  ∀ Q : L2.St → Hp → Prop, (∀ σ' H', Sq X Z Hb H' σ' δ' L → Only' is σ σ' → Q σ' H') → wGs X ts vs σ H Q
def tName (i : Nat) : MG := fun d δ => if i < δ.length then some (δ.set i (some d)) else none
def tsNil : MGs := fun ds δ => match ds with
  | [] => some δ
  | _ => none
def tsCons (t : MG) (u : MGs) : MGs := fun ds δ => match ds with
  | d :: r => match t d δ with
    | some δ1 => u r δ1
    | none => none
  | [] => none
def tTup (u : MGs) : MG := fun d δ => match d with
  | .tup ds => u ds δ
  | _ => none
section
variable {X : Cx} {is js : List Nat} {x : Str} {pos : Pos} {t : MG} {u : MGs} {e : Expr} {es : List Expr}
theorem it_name (i : Nat) (hp : PG X (.Name x pos) (gName i)) : IGt X [i] (.Name x pos) (tName i) := by
  intro Z Hb H σ δ L v d δ' s e Q q
  unfold tName at e
  split at e
  · rename_i hi
    cases e
    refine wG_of hp (q _ _ (s.store hi) ⟨by simp, fun j hj => ?_⟩)
    have : i ≠ j := fun e => hj (by simp [e])
    rw [List.getElem?_set_ne this]
  · cases e
theorem its_nil : IGts X [] [] tsNil := by
  intro Z Hb H σ δ L vs ds δ' hl s e Q q
  unfold tsNil at e
  split at e
  · cases e
    have : vs = [] := List.eq_nil_of_length_eq_zero hl
    subst this
    exact wGs_of pgs_nil ⟨rfl, q _ _ s ⟨rfl, fun _ _ => rfl⟩⟩
  · cases e
theorem its_cons (h : IGt X is e t) (h2 : IGts X js es u) (hs : (assignEach (e :: es) X.env).map (·.2) = assign e X.env :: (assignEach es X.env).map (·.2)) : IGts X (is ++ js) (e :: es) (tsCons t u) := by
  intro Z Hb H σ δ L vs ds δ' hl s e' Q q
  unfold tsCons at e'
  split at e'
  · rename_i d r
    split at e'
    · rename_i δ1 e1
      match vs, hl with
      | v :: vs, hl =>
        refine wGs_of (pgs_cons pg_w pgs_w hs) ⟨v, vs, rfl, ?_⟩
        have s1 : Sq X Z Hb H σ δ ((v, d) :: (vs.zip r ++ L)) := s
        refine h s1 e1 _ fun σ1 H1 s2 o1 => h2 (by simpa using hl) s2 e' _ fun σ2 H2 s3 o2 => q _ _ s3 ⟨o2.1.trans o1.1, fun i hi => ?_⟩
        rw [o2.2 i (fun m => hi (List.mem_append_right _ m)), o1.2 i (fun m => hi (List.mem_append_left _ m))]
    · cases e'
  · cases e'
theorem it_tup {k : Nat} {n : Nat} (hc : X.calm = true) (h : IGts X is es u) (hn : (assignEach es X.env).length = n) (hst : (assignEach es X.env).findIdx? (·.1) = none) (hz : ∀ ds δ δ', u ds δ = some δ' → ds.length = n) : IGt X is (.Tuple es k pos) (tTup u) := by
  intro Z Hb H σ δ L v d δ' s e Q q
  unfold tTup at e
  split at e
  · rename_i ds
    refine wG_of (pg_tup hc pgs_w hn hst) ?_
    obtain ⟨a, vs, rfl, ha, hl, s1⟩ := s.sp.tup
    refine ⟨a, vs, rfl, ha, by rw [hl]; exact hz _ _ _ e, h hl ⟨by rw [List.append_assoc]; exact s1, s.dom⟩ e Q q⟩
  · cases e
theorem tsNil_len (ds : List D) (δ δ' : Env) (h : tsNil ds δ = some δ') : ds.length = 0 := by
  unfold tsNil at h; split at h
  · rfl
  · cases h
theorem tsCons_len {n : Nat} (hu : ∀ ds δ δ', u ds δ = some δ' → ds.length = n) (ds : List D) (δ δ' : Env) (h : tsCons t u ds δ = some δ') : ds.length = n + 1 := by
  unfold tsCons at h; split at h
  · split at h
    · simp [hu _ _ _ h]
    · cases h
  · cases h
end
def loopF (t : MG) (b : MS) : List D → Env → Option Fl
  | [], δ => some (.nx δ)
  | d :: r, δ => match t d δ with
    | some δ1 => match b δ1 with
      | some (.nx δ2) => loopF t b r δ2
      | some (.ct δ2) => loopF t b r δ2
      | some (.bk δ2) => some (.nx δ2)
      | some (.rt v δ2) => some (.rt v δ2)
      | none => none
    | none => none
def sFor (i : MI) (t : MG) (b : MS) : MS := fun δ => match i δ with
  | some (ds, δ1) => loopF t b ds δ1
  | none => none
theorem Only'.same {is : List Nat} {P : Nat → Bool} {σ σ' : L2.St} (h : Only' is σ σ') (hp : ∀ i ∈ is, P i = false) : SameP P σ σ' := fun i hi => h.2 i fun m => by rw [hp i m] at hi; cases hi
section
variable {X : Cx} {P : Nat → Bool} {tg iter : Expr} {body : List Stmt} {mi : MI} {t : MG} {b : MS} {is : List Nat} {pos : Pos}
theorem for_core (hpo : PassesOwn (model X.prog X.w) X.A X.env X.xe) (hc : X.calm = true) (ht : IGt X is tg t) (hb : ISs X P body b) (hP : ∀ i ∈ is, P i = false) (hs : ∀ x, foldedSetIterable iter X.env x = pure x)
    {Z : Addr → Prop} {Hb H : Hp} {σ : L2.St} {δ1 : Env} {L : PL} {ds : List D} {fl : Fl} (hi : ∀ R : It → Hp → Prop, (∀ J H' LI, Yields X Hb J ds LI → Sq X Z Hb H' σ δ1 (LI ++ L) → R J H') → wI X tg iter σ H R)
    (e : loopF t b ds δ1 = some fl) (Dn : Ends) (f : Fin X P Z Hb σ L Dn fl) : wS X (.For tg iter body [] pos) Dn σ H := by
    refine wS_of (ps_for hpo hc pi_w pg_w pss_w hs) (hi _ fun J H1 LI hy s1 => ?_)
    refine ⟨fun i m σ' H' => m = ds.length - i ∧ i ≤ ds.length ∧ SameP P σ σ' ∧ ∃ δi, Sq X Z Hb H' σ' δi (LI ++ L) ∧ loopF t b (ds.drop i) δi = some fl, ⟨ds.length, by simp, Nat.zero_le _, .refl, δ1, s1, by simpa using e⟩, ?_⟩
    rintro i m σ' H' ⟨rfl, hi', same, δi, si, el⟩
    have sp0 : Sp X.K X.mg Z Hb H' (LI ++ (L ++ prs σ' δi)) := by
      have := si.sp
      (rw [List.append_assoc] at this)
      exact this
    have hyi := hy i sp0
    by_cases hlt : i < ds.length
    · obtain ⟨go, yl⟩ := hyi.1 hlt
      have hd : ds.drop i = ds[i] :: ds.drop (i + 1) := List.drop_eq_getElem_cons hlt
      rw [hd] at el
      simp only [loopF] at el
      split at el
      · rename_i δ2 et
        refine .inr ⟨go, fun σ2 H2 => SameP P σ σ2 ∧ ∃ δ3, Sq X Z Hb H2 σ2 δ3 (LI ++ L) ∧ loopF t b (ds.drop (i + 1)) δ3 = some fl, fun σ2 H2 ⟨sm, δ3, s3, e3⟩ => ⟨ds.length - (i + 1), by omega, rfl, hlt, sm, δ3, s3, e3⟩, fun x H2 y => ?_⟩
        obtain ⟨d, ed, sy⟩ := yl x H2 y
        have ed' : d = ds[i] := by simpa [hlt] using ed.symm
        subst ed'
        have s2 : Sq X Z Hb H2 σ' δi ((x, ds[i]) :: (LI ++ L)) := ⟨by
          show Sp X.K X.mg Z Hb H2 ((x, ds[i]) :: (LI ++ L ++ prs σ' δi))
          rw [List.append_assoc]; exact sy, si.dom⟩
        refine ht s2 et _ fun σ3 H3 s3 o3 => ?_
        have sm3 := same.trans (o3.same hP)
        split at el
        · rename_i δ4 eb
          exact hb s3 eb _ fun σ4 H4 s4 sm4 => ⟨sm3.trans sm4, δ4, s4, el⟩
        · rename_i δ4 eb
          exact hb s3 eb _ fun σ4 H4 s4 sm4 => ⟨sm3.trans sm4, δ4, s4, el⟩
        · rename_i δ4 eb
          cases el
          exact hb s3 eb _ fun σ4 H4 s4 sm4 => f σ4 H4 s4.dropL (sm3.trans sm4)
        · rename_i v δ4 eb
          cases el
          exact hb s3 eb _ fun v σ4 H4 s4 sm4 => f v σ4 H4 (Sq.dropL (A := LI) (s4.perm List.perm_middle.symm)) (sm3.trans sm4)
        · cases el
      · cases el
    · have hn : i = ds.length := by omega
      have : ds.drop i = [] := List.drop_eq_nil_of_le (by omega)
      rw [this] at el
      cases el
      exact .inl ⟨hyi.2 (by omega), f σ' H' si.dropL same⟩
theorem is_for (hpo : PassesOwn (model X.prog X.w) X.A X.env X.xe) (hc : X.calm = true) (hi : II X tg iter mi) (ht : IGt X is tg t) (hb : ISs X P body b) (hP : ∀ i ∈ is, P i = false) (hs : ∀ x, foldedSetIterable iter X.env x = pure x) :
    IS X P (.For tg iter body [] pos) (sFor mi t b) := by
  intro Z Hb H σ δ L fl s e Dn f
  unfold sFor at e
  split at e
  · rename_i ds δ1 e1
    exact for_core hpo hc ht hb hP hs (fun R q => hi s e1 R q) e Dn f
  · cases e
end
end DL
set_option Elab.async false
set_option linter.all false
set_option maxRecDepth 100000
set_option maxHeartbeats 4000001
namespace DL
open PySem.Spec PySem L2 PyProof.Rows
/-- the slots of the block's own names are empty -/
def wipeE : Env → List Nat → Env
  | δ, [] => δ
  | δ, v :: vs => (wipeE δ vs).set v none
theorem wipeE_len : ∀ (δ : Env) (vs : List Nat), (wipeE δ vs).length = δ.length
  | _, [] => rfl
  | δ, v :: vs => by simp [wipeE, wipeE_len δ vs]
theorem wipeE_get : ∀ {δ : Env} {vs : List Nat} {i : Nat} {d : D}, (wipeE δ vs)[i]? = some (some d) → δ[i]? = some (some d) ∧ i ∉ vs
  | _, [], _, _, h => ⟨h, by simp⟩
  | δ, v :: vs, i, d, h => by
    simp only [wipeE] at h
    rw [List.getElem?_set] at h
    by_cases hi : v = i
    · subst hi
      rw [if_pos rfl] at h
      split at h <;> cases h
    · rw [if_neg hi] at h
      obtain ⟨h1, h2⟩ := wipeE_get h
      (exact ⟨h1, by simp only [List.mem_cons, not_or]; exact ⟨fun e => hi e.symm, h2⟩⟩)
/-- pairs of the slots that are left -/
theorem prs_wipe : ∀ (σ : L2.St) (δ : Env) (vs : List Nat), prs (wipe σ vs) (wipeE δ vs) = prs σ (wipeE δ vs)
  | σ, δ, [] => rfl
  | σ, δ, v :: vs => by
    simp only [wipe, wipeE]
    rw [prs_none]
    -- both sides over the same trees; the values part in the slots vs alone
    have : ∀ (σ σ' : L2.St) (ε : Env), σ.length = σ'.length → (∀ (i : Nat) (d : D), ε[i]? = some (some d) → σ[i]? = σ'[i]?) → prs σ ε = prs σ' ε := by
      intro σ
      induction σ with
      | nil => intro σ' ε hl _; cases σ' with
        | nil => rfl
        | cons _ _ => simp at hl
      | cons s σ ih => intro σ' ε hl h; cases σ' with
        | nil => simp at hl
        | cons s' σ' => cases ε with
          | nil => simp [prs_nil]
          | cons d ε =>
            have ih' := ih σ' ε (by simpa using hl) (fun i d hd => by simpa using h (i + 1) d (by simpa using hd))
            cases d with
            | none => cases s <;> cases s' <;> simp [prs, ih']
            | some d =>
              have := h 0 d rfl
              have e : s = s' := by simpa using this
              subst e
              cases s <;> simp [prs, ih']
    refine this _ _ _ (wipe_length σ vs) fun i d h => ?_
    rw [List.getElem?_set] at h
    by_cases hi : v = i
    · subst hi
      rw [if_pos rfl] at h
      split at h <;> cases h
    · rw [if_neg hi] at h
      obtain ⟨h1, h2⟩ := wipeE_get h
      clear h h1 this
      induction vs with
      | nil => rfl
      | cons w ws ih =>
        simp only [wipe]
        rw [List.getElem?_set_ne (show w ≠ i from fun e => h2 (by simp [e]))]
        exact ih fun m => h2 (List.mem_cons_of_mem _ m)
theorem Dom.wipe {σ : L2.St} {δ : Env} (h : Dom σ δ) (vs : List Nat) : Dom σ (wipeE δ vs) :=
  ⟨by rw [wipeE_len]; exact h.1, fun i d q => h.2 i d (wipeE_get q).1⟩
theorem wipe_get : ∀ {σ : L2.St} {vs : List Nat} {i : Nat}, i ∉ vs → (L2.wipe σ vs)[i]? = σ[i]?
  | _, [], _, _ => rfl
  | σ, v :: vs, i, h => by
    simp only [L2.wipe]
    rw [List.getElem?_set_ne (show v ≠ i from fun e => h (by simp [e]))]
    exact wipe_get fun m => h (List.mem_cons_of_mem _ m)
theorem wipe_get' : ∀ {σ : L2.St} {vs : List Nat} {i : Nat}, i ∈ vs → i < σ.length → (L2.wipe σ vs)[i]? = some none
  | σ, v :: vs, i, h, hl => by
    simp only [L2.wipe]
    rw [List.getElem?_set]
    by_cases e : v = i
    · rw [if_pos e, if_pos (by rw [wipe_length]; omega)]
    · rw [if_neg e]
      exact wipe_get' ((List.mem_cons.mp h).resolve_left fun q => e q.symm) hl
theorem wipe_only {σ σ' : L2.St} {vs is : List Nat} (h : Only' is (L2.wipe σ vs) σ') (hi : ∀ i ∈ is, i ∈ vs) : L2.wipe σ' vs = L2.wipe σ vs := by
  apply List.ext_getElem?
  intro i
  have hl : σ'.length = σ.length := h.1.trans (wipe_length σ vs)
  by_cases m : i ∈ vs
  · by_cases hb : i < σ.length
    · rw [wipe_get' m (by omega), wipe_get' m hb]
    · rw [List.getElem?_eq_none (by rw [wipe_length]; omega), List.getElem?_eq_none (by rw [wipe_length]; omega)]
  · rw [wipe_get m]
    exact (h.2 i fun q => m (hi i q))
theorem Dom.of_wipe {σ : L2.St} {δ : Env} {vs : List Nat} (h : Dom σ (wipeE δ vs)) : Dom (L2.wipe σ vs) (wipeE δ vs) := by
  refine ⟨by rw [wipe_length]; exact h.1, fun i d q => ?_⟩
  obtain ⟨v, e⟩ := h.2 i d q
  exact ⟨v, by rw [wipe_get (wipeE_get q).2]; exact e⟩
/-- the turns: what is walked, what is made so far -/
def loopC (own : List Nat) (t : MG) (c : MT) (m : ME) : List D → Env → List D → Option (List D × Env)
  | [], δ, acc => some (acc, δ)
  | d :: r, δ, acc => match t d δ with
    | some δ1 => match c δ1 with
      | some (true, δ2) => match m δ2 with
        | some (x, δ3) => loopC own t c m r (wipeE δ3 own) (acc ++ [x])
        | none => none
      | some (false, δ2) => loopC own t c m r (wipeE δ2 own) acc
      | none => none
    | none => none
def mLc (i : MI) (own : List Nat) (t : MG) (c : MT) (m : ME) : ME := fun δ => match i δ with
  | some (ds, δ1) => if ds.length ≤ sizeLine then match loopC own t c m ds (wipeE δ1 own) [] with
      | some (acc, δ2) => some (.lst true acc, δ2)
      | none => none
    else none
  | none => none
def tTrue : MT := fun δ => some (true, δ)
def wTs (X : Cx) (ifs : List Expr) : TT := fun σ H Q => ∀ pins s, Inv X pins σ H s → wpAny (model X.prog X.w) X.A
  (forIn ifs true fun c r => if r = true then do let ok ← isTrue c X.env (eval c X.env); pure (ForInStep.yield ok) else pure (ForInStep.yield r)) (TP X pins σ Q) X.xe s
def ITs (X : Cx) (ifs : List Expr) (m : MT) : Prop := ∀ {Z : Addr → Prop} {Hb H : Hp} {σ : L2.St} {δ : Env} {L : PL} {b : Bool} {δ' : Env}, Sq X Z Hb H σ δ L → m δ = some (b, δ') →
  ∀ Q : Bool → Hp → Prop, (∀ H', Sq X Z Hb H' σ δ' L → Q b H') → wTs X ifs σ H Q
theorem its0 {X : Cx} : ITs X [] tTrue := by
  intro Z Hb H σ δ L b δ' s e Q q
  cases e
  exact fun pins s' I => pts_nil.run pins s' σ H Q I (q H s)
theorem its1 {X : Cx} {c : Expr} {m : MT} (h : IT X c m) : ITs X [c] m := by
  intro Z Hb H σ δ L b δ' s e Q q
  exact fun pins s' I => (pts_one pt_w).run pins s' σ H Q I (h s e Q q)
abbrev bX (X : Cx) (scope : Scope) (s : Shared) (H : Hp) (C : Addr) (cl : List (Str × Addr)) (fp : List Addr) : Cx := X.blk s H scope (compEnvC scope cl C X.env) fp
section
variable {X : Cx} {elt tg iter : Expr} {ifs : List Expr} {scope : Scope} {own : List (Str × Nat)} {pos : Pos} {mi : MI} {t : MG} {c : MT} {m : ME} {is : List Nat}
theorem Sp.unset {K : PySem.W.Frag} {mg : Str → Option Value} {H Hb : Hp} {Z : Addr → Prop} {A : PL} {σ : L2.St} {δ : Env} (dm : Dom σ δ) (s : Sp K mg Z Hb H (A ++ prs σ δ)) (i : Nat) : Sp K mg Z Hb H (A ++ prs σ (δ.set i none)) := by
  cases hδ : δ[i]? with
  | none =>
    have : δ.set i none = δ := List.set_eq_of_length_le (by simpa using hδ)
    rw [this]; exact s
  | some x => cases x with
    | none =>
      have : δ.set i none = δ := by
        apply List.ext_getElem?
        intro n
        rw [List.getElem?_set]
        by_cases h : i = n
        · subst h; rw [if_pos rfl, hδ, if_pos (List.getElem?_eq_some_iff.mp hδ).1]
        · rw [if_neg h]
      rw [this]; exact s
    | some dd =>
      obtain ⟨w, hw⟩ := dm.2 i dd hδ
      have h2 : Sp K mg Z Hb H ((w, dd) :: (A ++ prs σ (δ.set i none))) := s.perm (((prs_get hw hδ).append_left A).trans List.perm_middle)
      exact h2.drop
theorem Sp.wipes {K : PySem.W.Frag} {mg : Str → Option Value} {H Hb : Hp} {Z : Addr → Prop} {A : PL} {σ : L2.St} {δ : Env} (dm : Dom σ δ) (s : Sp K mg Z Hb H (A ++ prs σ δ)) : ∀ vs : List Nat, Sp K mg Z Hb H (A ++ prs σ (wipeE δ vs))
  | [] => s
  | v :: vs => Sp.unset (dm.wipe vs) (Sp.wipes dm s vs) v
theorem prs_only {σ σ2 : L2.St} {δ : Env} {vs : List Nat} (ho : Only' vs σ σ2) : prs σ2 (wipeE δ vs) = prs σ (wipeE δ vs) := by
  rw [← prs_wipe σ2, ← prs_wipe σ, wipe_only (σ := σ) (is := vs) ⟨by rw [wipe_length]; exact ho.1, fun i hi => by rw [wipe_get hi]; exact ho.2 i hi⟩ (fun _ h => h)]
theorem Dom.only {σ σ2 : L2.St} {δ : Env} {vs : List Nat} (h : Dom σ2 δ) (ho : Only' vs σ σ2) : Dom σ (wipeE δ vs) := by
  refine ⟨by rw [wipeE_len, ← h.1, ho.1], fun i d q => ?_⟩
  obtain ⟨q1, q2⟩ := wipeE_get q
  obtain ⟨v, e⟩ := h.2 i d q1
  exact ⟨v, by rw [← ho.2 i q2]; exact e⟩
theorem lc_core (ht : ∀ s H C cl fp, IGt (bX X scope s H C cl fp) is tg t) (hc : ∀ s H C cl fp, ITs (bX X scope s H C cl fp) ifs c) (he : ∀ s H C cl fp, IG (bX X scope s H C cl fp) elt m)
    {vs : List Nat} (hsub : ∀ i ∈ is, i ∈ vs) {Z : Addr → Prop} {Hb H : Hp} {σ : L2.St} {δ1 δ' : Env} {L : PL} {ds accF : List D} (hz : ds.length ≤ sizeLine)
    (hi : ∀ R : It → Hp → Prop, (∀ J H' LI, Yields X Hb J ds LI → Sq X Z Hb H' σ δ1 (LI ++ L) → R J H') → wI X tg iter σ H R)
    (e2 : loopC vs t c m ds (wipeE δ1 vs) [] = some (accF, δ')) (Q : VK) (q : ∀ v H', Sq X Z Hb H' σ δ' ((v, .lst true accF) :: L) → Q v H') :
    tLc (wI X tg iter) (fun v σ H Q => ∀ s H0 C cl fp, wG (bX X scope s H0 C cl fp) tg v σ H Q) (fun σ H Q => ∀ s H0 C cl fp, wTs (bX X scope s H0 C cl fp) ifs σ H Q) (fun σ H Q => ∀ s H0 C cl fp, wE (bX X scope s H0 C cl fp) elt σ H Q) vs σ H Q := by
  refine hi _ fun J H1 LI hy s1 => fun D hD => ?_
  have dm1 : Dom σ (wipeE δ1 vs) := s1.dom.wipe vs
  refine ⟨fun i n H' => n = ds.length - i ∧ i ≤ ds.length ∧ ∃ δi acc, Sp X.K X.mg Z Hb H' (LI ++ ((.ref D, .lst true acc) :: (L ++ prs σ (wipeE δi vs)))) ∧ Dom σ (wipeE δi vs) ∧ acc.length ≤ i ∧ loopC vs t c m (ds.drop i) (wipeE δi vs) acc = some (accF, δ'), ⟨ds.length, by simp, Nat.zero_le _, δ1, [], ?_, dm1, Nat.le_refl _, by simpa using e2⟩, ?_⟩
  · have h1 := Sp.wipes s1.dom s1.sp vs
    have h2 : Sp X.K X.mg Z Hb (upd H1 D (.lst [])) ((.ref D, .lst true []) :: (LI ++ L ++ prs σ (wipeE δ1 vs))) := Sp.newL (vs := []) (ds := []) h1 rfl hD
    refine h2.perm ?_
    rw [List.append_assoc]
    exact List.perm_middle.symm
  · rintro i n H' ⟨rfl, hi', δi, acc, si, di, hacc, el⟩
    have hyi := hy i si
    by_cases hlt : i < ds.length
    · obtain ⟨go, yl⟩ := hyi.1 hlt
      have hd : ds.drop i = ds[i] :: ds.drop (i + 1) := List.drop_eq_getElem_cons hlt
      rw [hd] at el
      simp only [loopC] at el
      split at el
      · rename_i δ3 et
        refine .inr ⟨go, fun H2 => ∃ δi acc, Sp X.K X.mg Z Hb H2 (LI ++ ((.ref D, .lst true acc) :: (L ++ prs σ (wipeE δi vs)))) ∧ Dom σ (wipeE δi vs) ∧ acc.length ≤ i + 1 ∧ loopC vs t c m (ds.drop (i + 1)) (wipeE δi vs) acc = some (accF, δ'),
          fun H2 h => ⟨ds.length - (i + 1), by omega, rfl, hlt, h⟩, fun x H2 y => ?_⟩
        obtain ⟨d, ed, sy⟩ := yl x H2 y
        have ed' : d = ds[i] := by simpa [hlt] using ed.symm
        subst ed'
        have dw : Dom (L2.wipe σ vs) (wipeE δi vs) := di.of_wipe
        have sw : Sp X.K X.mg Z Hb H2 ((x, ds[i]) :: (LI ++ ((.ref D, .lst true acc) :: L)) ++ prs (L2.wipe σ vs) (wipeE δi vs)) := by
          rw [prs_wipe]
          have := sy
          simpa [List.append_assoc] using this
        intro s0 H0 C cl fp
        refine ht s0 H0 C cl fp (show Sq (bX X scope s0 H0 C cl fp) Z Hb H2 (L2.wipe σ vs) (wipeE δi vs) ((x, ds[i]) :: (LI ++ ((.ref D, .lst true acc) :: L))) from ⟨sw, dw⟩) et _ fun σ3 H3 s3 o3 => ⟨wipe_only o3 hsub, ?_⟩
        have o3' : Only' vs σ σ3 := ⟨o3.1.trans (wipe_length σ vs), fun j hj => by rw [o3.2 j fun h => hj (hsub j h), wipe_get hj]⟩
        have back : ∀ {H4 : Hp} {δ4 : Env} {A : PL}, Sp X.K X.mg Z Hb H4 (A ++ (LI ++ ((.ref D, .lst true acc) :: L)) ++ prs σ3 δ4) → Dom σ3 δ4 → Sp X.K X.mg Z Hb H4 (A ++ (LI ++ ((.ref D, .lst true acc) :: (L ++ prs σ (wipeE δ4 vs))))) := by
          intro H4 δ4 A h dm
          have h1 := Sp.wipes dm h vs
          rw [prs_only o3'] at h1
          simpa [List.append_assoc] using h1
        intro s0' H0' C' cl' fp'
        split at el
        · rename_i δ4 ec
          refine hc s0' H0' C' cl' fp' (show Sq (bX X scope s0' H0' C' cl' fp') Z Hb H3 σ3 δ3 (LI ++ ((.ref D, .lst true acc) :: L)) from ⟨s3.sp, s3.dom⟩) ec _ fun H4 s4 => ?_
          rw [if_pos rfl]
          intro s0'' H0'' C'' cl'' fp''
          split at el
          · rename_i z δ5 ee
            refine he s0'' H0'' C'' cl'' fp'' (show Sq (bX X scope s0'' H0'' C'' cl'' fp'') Z Hb H4 σ3 δ4 (LI ++ ((.ref D, .lst true acc) :: L)) from ⟨s4.sp, s4.dom⟩) ee _ fun w H5 s5 => ?_
            have s6 : Sp X.K X.mg Z Hb H5 ([(w, z)] ++ (LI ++ ((.ref D, .lst true acc) :: (L ++ prs σ (wipeE δ5 vs))))) := back (A := [(w, z)]) s5.sp s5.dom
            have s7 : Sp X.K X.mg Z Hb H5 ((.ref D, .lst true acc) :: ((w, z) :: (LI ++ (L ++ prs σ (wipeE δ5 vs))))) := s6.perm (by
              show List.Perm ((w, z) :: (LI ++ ((.ref D, .lst true acc) :: (L ++ prs σ (wipeE δ5 vs))))) _
              exact (List.perm_middle.cons _).trans (.swap _ _ _))
            obtain ⟨ws, hw, hlw, mu⟩ := s7.mutL
            refine ⟨ws, hw, by rw [hlw]; omega, δ5, acc ++ [z], ?_, s5.dom.only o3', by simp; omega, el⟩
            have s8 := mu (ws ++ [w]) (acc ++ [z]) (LI ++ (L ++ prs σ (wipeE δ5 vs))) (by simp [hlw]) (by
              rw [zip_append hlw, List.append_assoc]
              exact List.Perm.refl _)
            exact s8.perm List.perm_middle.symm
          · cases el
        · rename_i δ4 ec
          refine hc s0' H0' C' cl' fp' (show Sq (bX X scope s0' H0' C' cl' fp') Z Hb H3 σ3 δ3 (LI ++ ((.ref D, .lst true acc) :: L)) from ⟨s3.sp, s3.dom⟩) ec _ fun H4 s4 => ?_
          (rw [if_neg Bool.false_ne_true])
          exact ⟨δ4, acc, back (A := []) s4.sp s4.dom, s4.dom.only o3', by omega, el⟩
        · cases el
      · cases el
    · have hn : i = ds.length := by omega
      have : ds.drop i = [] := List.drop_eq_nil_of_le (by omega)
      rw [this] at el
      cases el
      refine .inl ⟨hyi.2 (by omega), q _ _ ⟨?_, di⟩⟩
      exact Sp.dropL (L := LI) si
/-- the reading of a comprehension over the mirrors -/
theorem lc_run (hi : II X tg iter mi) (ht : ∀ s H C cl fp, IGt (bX X scope s H C cl fp) is tg t) (hc : ∀ s H C cl fp, ITs (bX X scope s H C cl fp) ifs c) (he : ∀ s H C cl fp, IG (bX X scope s H C cl fp) elt m)
    {vs : List Nat} (hsub : ∀ i ∈ is, i ∈ vs) {Z : Addr → Prop} {Hb H : Hp} {σ : L2.St} {δ δ' : Env} {L : PL} {d : D} (s : Sq X Z Hb H σ δ L) (e : mLc mi vs t c m δ = some (d, δ')) (Q : VK) (q : ∀ v H', Sq X Z Hb H' σ δ' ((v, d) :: L) → Q v H') :
    tLc (wI X tg iter) (fun v σ H Q => ∀ s H0 C cl fp, wG (bX X scope s H0 C cl fp) tg v σ H Q) (fun σ H Q => ∀ s H0 C cl fp, wTs (bX X scope s H0 C cl fp) ifs σ H Q) (fun σ H Q => ∀ s H0 C cl fp, wE (bX X scope s H0 C cl fp) elt σ H Q) vs σ H Q := by
  unfold mLc at e
  split at e
  · rename_i ds δ1 e1
    split at e
    · rename_i hz
      split at e
      · rename_i accF δ2 e2
        cases e
        exact lc_core ht hc he hsub hz (fun R q => hi s e1 R q) e2 Q q
      · cases e
    · cases e
  · cases e
theorem ig_lc (hcl : X.calm = true) (hN : X.N.Nodup) (hi : II X tg iter mi) (ok : BlkOk X.N X.env.scope scope own) (ht : ∀ s H C cl fp, IGt (bX X scope s H C cl fp) is tg t) (hc : ∀ s H C cl fp, ITs (bX X scope s H C cl fp) ifs c) (he : ∀ s H C cl fp, IG (bX X scope s H C cl fp) elt m)
    (hsub : ∀ i ∈ is, i ∈ own.map (·.2)) (hs : ∀ x, foldedSetIterable iter X.env x = pure x) : IG X (.ListComp elt [⟨tg, iter, ifs, 0⟩] scope pos) (mLc mi (own.map (·.2)) t c m) := by
  intro Z Hb H σ δ L d δ' s e Q q
  refine wE_of (pe_lc (wi := wI X tg iter) (g := fun v σ H Q => ∀ s H0 C cl fp, wG (bX X scope s H0 C cl fp) tg v σ H Q) (tt := fun σ H Q => ∀ s H0 C cl fp, wTs (bX X scope s H0 C cl fp) ifs σ H Q) (te := fun σ H Q => ∀ s H0 C cl fp, wE (bX X scope s H0 C cl fp) elt σ H Q) hcl hN pi_w ok (fun s H C cl fp => ⟨fun pins s' σ H' v u Q I r h => h s H C cl fp pins s' u I r⟩) (fun s H C cl fp => ⟨fun pins s' σ H' Q I h => h s H C cl fp pins s' I⟩) (fun s H C cl fp => ⟨fun pins s' σ H' Q I h => h s H C cl fp pins s' I⟩) hs) ?_
  exact lc_run hi ht hc he hsub s e Q q
/-- y = [..], all of it on one line -/
theorem is_setLc {P : Nat → Bool} {i : Nat} {y : Str} {py spos : Pos} (hP : P i = false) (hcl : X.calm = true) (hN : X.N.Nodup) (hy : X.N[i]? = some y) (hyl : X.env.scope.names.lookup y = some .local)
    (hsw : swapsWith (.ListComp elt [⟨tg, iter, ifs, 0⟩] scope pos) (some (.Name y py)) spos.line X.env = pure true) (hi : II X tg iter mi) (ok : BlkOk X.N X.env.scope scope own) (ht : ∀ s H C cl fp, IGt (bX X scope s H C cl fp) is tg t) (hc : ∀ s H C cl fp, ITs (bX X scope s H C cl fp) ifs c) (he : ∀ s H C cl fp, IG (bX X scope s H C cl fp) elt m)
    (hsub : ∀ i ∈ is, i ∈ own.map (·.2)) (hs : ∀ x, foldedSetIterable iter X.env x = pure x) : IS X P (.Assign [.Name y py] (.ListComp elt [⟨tg, iter, ifs, 0⟩] scope pos) spos) (sSet i (mLc mi (own.map (·.2)) t c m)) := by
  intro Z Hb H σ δ L fl s e Dn f
  unfold sSet at e
  split at e
  · rename_i d δ1 e1
    split at e
    · rename_i hl
      cases e
      refine wS_of (ps_setLc (wi := wI X tg iter) (g := fun v σ H Q => ∀ s H0 C cl fp, wG (bX X scope s H0 C cl fp) tg v σ H Q) (tt := fun σ H Q => ∀ s H0 C cl fp, wTs (bX X scope s H0 C cl fp) ifs σ H Q) (te := fun σ H Q => ∀ s H0 C cl fp, wE (bX X scope s H0 C cl fp) elt σ H Q) hcl hN hy hyl hsw pi_w ok (fun s H C cl fp => ⟨fun pins s' σ H' v u Q I r h => h s H C cl fp pins s' u I r⟩) (fun s H C cl fp => ⟨fun pins s' σ H' Q I h => h s H C cl fp pins s' I⟩) (fun s H C cl fp => ⟨fun pins s' σ H' Q I h => h s H C cl fp pins s' I⟩) hs) ?_
      exact lc_run hi ht hc he hsub s e1 _ fun v H' s' => f _ H' (s'.store hl) (.set hP _)
    · cases e
  · cases e
end
end DL
set_option Elab.async false
set_option linter.all false
set_option maxRecDepth 100000
set_option maxHeartbeats 4000001
namespace DL
open PySem.Spec PySem L2 PyProof.Rows
abbrev MO := Env → Option (Option Int × Env)
def oNone : MO := fun δ => some (none, δ)
def oSome (m : ME) : MO := fun δ => match m δ with
  | some (.int i, δ1) => some (some i, δ1)
  | _ => none
def cutD {α : Type} (ds : List α) (lo hi : Option Int) : List α := (ds.drop (HT.sIx ds.length 0 lo)).take (HT.sIx ds.length ds.length hi - HT.sIx ds.length 0 lo)
def dSl : D → Option Int → Option Int → Option D
  | .lst _ ds, lo, hi => some (.lst true (cutD ds lo hi))
  | .tup ds, lo, hi => some (.tup (cutD ds lo hi))
  | .str z, lo, hi => if z.length ≤ sizeLine then some (.str (cutS z lo hi)) else none
  | _, _, _ => none
def mSl (a : ME) (lo hi : MO) : ME := fun δ => match a δ with
  | some (x, δ1) => match lo δ1 with
    | some (l, δ2) => match hi δ2 with
      | some (h, δ3) => match dSl x l h with
        | some d => some (d, δ3)
        | none => none
      | none => none
    | none => none
  | none => none
section
variable {X : Cx} {e : Expr} {m : ME} {lo hi : Option Expr} {ml mh : MO} {p2 pos : Pos}
def mUn (g : D → Option D) (a : ME) : ME := fun δ => match a δ with
  | some (x, δ1) => match g x with
    | some d => some (d, δ1)
    | none => none
  | none => none
end
end DL
set_option Elab.async false
set_option linter.all false
set_option maxRecDepth 100000
set_option maxHeartbeats 4000001
namespace DL
open PySem.Spec PySem L2 PyProof.Rows
abbrev MPs := List (ME × ME)
def mPairs : MPs → Env → Option (List (Key × D) × Env)
  | [], δ => some ([], δ)
  | (mk, mv) :: r, δ => match mk δ with
    | some (k, δ1) => match keyD k with
      | some kk => match mv δ1 with
        | some (d, δ2) => match mPairs r δ2 with
          | some (ps, δ3) => some ((kk, d) :: ps, δ3)
          | none => none
        | none => none
      | none => none
    | none => none
def trsOf (X : Cx) : List (Option Expr) → List Expr → List (TE × TE)
  | some k :: ks, v :: vs => (wE X k, wE X v) :: trsOf X ks vs
  | _, _ => []
def IPs (X : Cx) (pos : Pos) (keys : List (Option Expr)) (values : List Expr) (ms : MPs) : Prop := PPs X pos keys values (trsOf X keys values) ∧
  ∀ {Z : Addr → Prop} {Hb H : Hp} {σ : L2.St} {δ : Env} {L : PL} {kds : List (Key × D)} {δ' : Env}, Sq X Z Hb H σ δ L → mPairs ms δ = some (kds, δ') →
    ∀ Q : List (V × V) → Hp → Prop, (∀ (kvs : List (Key × V)) H', kvs.map (·.1) = kds.map (·.1) → Sq X Z Hb H' σ δ' ((kvs.map (·.2)).zip (kds.map (·.2)) ++ L) → Q (kvs.map fun kv => (kV kv.1, kv.2)) H') → tPairs (trsOf X keys values) σ H Q
section
variable {X : Cx} {pos : Pos} {k v : Expr} {ks : List (Option Expr)} {vs : List Expr} {mk mv : ME} {ms : MPs}
theorem ips_nil : IPs X pos [] [] [] := by
  refine ⟨pps_nil, ?_⟩
  intro Z Hb H σ δ L kds δ' s e Q q
  cases e
  exact q [] H rfl s
theorem ips_cons (hk : IG X k mk) (hv : IG X v mv) (hr : IPs X pos ks vs ms) : IPs X pos (some k :: ks) (v :: vs) ((mk, mv) :: ms) := by
  refine ⟨pps_cons pe_w pe_w hr.1, ?_⟩
  intro Z Hb H σ δ L kds δ' s e Q q
  simp only [mPairs] at e
  split at e
  · rename_i kd δ1 e1
    split at e
    · rename_i kk e2
      split at e
      · rename_i d δ2 e3
        split at e
        · rename_i ps δ3 e4
          cases e
          refine hk s e1 _ fun x H1 s1 => hv s1.drop e3 _ fun y H2 s2 => hr.2 s2 e4 _ fun kvs H3 hkk s3 => ?_
          have hx : x = kV kk := Sp.key s1.sp e2
          subst hx
          refine q ((kk, y) :: kvs) H3 (by simp [hkk]) (s3.perm ?_)
          exact List.perm_middle
        · cases e
      · cases e
    · cases e
  · cases e
end
theorem mergeK_new : ∀ {more kvs : List (Key × V)}, (∀ p ∈ more, valV kvs p.1 = none) → (more.map (·.1)).Nodup → mergeK kvs more = kvs ++ more
  | [], kvs, _, _ => by simp [mergeK]
  | p :: r, kvs, h, nd => by
    have h0 := h p List.mem_cons_self
    have nd' := List.nodup_cons.mp nd
    show mergeK (putK kvs p.1 p.2) r = _
    rw [putK_new p.2 h0, mergeK_new (fun q hq => ?_) nd'.2, List.append_assoc]
    · rfl
    · rw [valV_snoc _ _ _ _ h0, if_neg fun e => nd'.1 (by show p.1 ∈ _; rw [← e]; exact List.mem_map_of_mem hq)]
      exact h q (List.mem_cons_of_mem _ hq)
def mDisp (ms : MPs) : ME := fun δ => match mPairs ms δ with
  | some (kds, δ1) => if (kds.map (·.1)).Nodup ∧ kds.length ≤ 15 then some (.dct true (kds.map (·.1)) (kds.map (·.2)), δ1) else none
  | none => none
section
variable {X : Cx} {pos : Pos} {keys : List (Option Expr)} {values : List Expr} {ms : MPs}
theorem ig_disp (h : IPs X pos keys values ms) (hall : keys.all (·.isSome) = true) (hl : keys.length = values.length) (h0 : keys ≠ []) (h15 : keys.length ≤ 15) : IG X (.Dict keys values pos) (mDisp ms) := by
  intro Z Hb H σ δ L d δ' s e Q q
  unfold mDisp at e
  split at e
  · rename_i kds δ1 e1
    split at e
    · rename_i hn
      cases e
      refine wE_of (pe_disp h.1 hall hl h0 h15) fun p hp => ?_
      have s1 : Sq X Z Hb (upd H p (.dK [])) σ δ ((.ref p, .dct true [] []) :: L) := ⟨Sp.newK (kvs := []) (ds := []) s.sp rfl ⟨rfl, List.nodup_nil⟩ hp, s.dom⟩
      refine h.2 s1 e1 _ fun kvs H2 hk s2 => ?_
      have hlen : kvs.length = kds.length := by have := congrArg List.length hk; simpa using this
      have s3 : Sp X.K X.mg Z Hb H2 ((.ref p, .dct true [] []) :: ((kvs.map (·.2)).zip (kds.map (·.2)) ++ (L ++ prs σ δ'))) := s2.sp.perm (by
        rw [List.append_assoc]
        exact List.perm_middle)
      obtain ⟨kvs0, ha, hk0, hl0, back⟩ := s3.mutK
      have : kvs0 = [] := List.eq_nil_of_length_eq_zero hl0
      subst this
      refine ⟨ha, kvs, rfl, by omega, ?_⟩
      have nd : (kvs.map (·.1)).Nodup := by rw [hk]; exact hn.1
      rw [mergeK_new (fun _ _ => rfl) nd, List.nil_append]
      refine q _ _ ⟨?_, s2.dom⟩
      rw [← hk]
      exact back kvs (kds.map (·.2)) _ (by simp [hlen]) nd (List.Perm.refl _)
    · cases e
  · cases e
end
end DL
set_option Elab.async false
set_option linter.all false
set_option maxRecDepth 100000
set_option maxHeartbeats 4000001
namespace DL
open PySem.Spec PySem L2 PyProof.Rows
inductive Stp where
  | sub (k : Key)
  | fld (cs : List Str) (n : Str)
def posOf {α : Type} [DecidableEq α] : List α → α → Option Nat
  | [], _ => none
  | x :: r, y => if x = y then some 0 else (posOf r y).map (· + 1)
def kids : D → List D
  | .lst _ ds => ds
  | .tup ds => ds
  | .dct _ _ ds => ds
  | .obj _ _ _ ds => ds
  | _ => []
def setKids : D → List D → D
  | .lst o _, ds => .lst o ds
  | .tup _, ds => .tup ds
  | .dct o ks _, ds => .dct o ks ds
  | .obj o c ns _, ds => .obj o c ns ds
  | d, _ => d
def ownC : D → Bool
  | .lst o _ => o
  | .dct o _ _ => o
  | .obj o _ _ _ => o
  | _ => false
def chN : D → Stp → Option Nat
  | .dct _ ks _, .sub k => posOf ks k
  | .obj _ c ns _, .fld cs n => if cs.contains c then posOf ns n else none
  | .lst _ ds, .sub (.inl i) => ixN ds.length i
  | .tup ds, .sub (.inl i) => ixN ds.length i
  | _, _ => none
/-- one step, by values -/
def Rc1 (K : PySem.W.Frag) (mg : Str → Option Value) (H : Hp) (v : V) (s : Stp) (u : V) : Prop := match s with
  | .sub k => (∃ a kvs, v = .ref a ∧ Rd H a (.dK kvs) ∧ valV kvs k = some u) ∨ ∃ a vs i, k = .inl i ∧ v = .ref a ∧ (SqL K H a vs ∨ SqT K H a vs) ∧ atI vs i = some u
  | .fld cs n => ∃ a C dx fs c, v = .ref a ∧ H a = some (.ins C dx fs) ∧ c ∈ cs ∧ mg c = some (.ref C) ∧ fs.lookup n = some u
/-- one step through what is one's own -/
def Ro1 (K : PySem.W.Frag) (mg : Str → Option Value) (H : Hp) (v : V) (s : Stp) (u : V) : Prop := match s with
  | .sub k => (∃ a kvs, v = .ref a ∧ H a = some (.dK kvs) ∧ valV kvs k = some u) ∨ ∃ a vs i, k = .inl i ∧ v = .ref a ∧ H a = some (.lst vs) ∧ atI vs i = some u
  | .fld cs n => ∃ a C dx fs c, v = .ref a ∧ H a = some (.ins C dx fs) ∧ c ∈ cs ∧ mg c = some (.ref C) ∧ fs.lookup n = some u
def Ro (K : PySem.W.Frag) (mg : Str → Option Value) (H : Hp) : V → List Stp → V → Prop
  | v, [], w => v = w
  | v, s :: p, w => ∃ u, Ro1 K mg H v s u ∧ Ro K mg H u p w
def Rc (K : PySem.W.Frag) (mg : Str → Option Value) (H : Hp) : V → List Stp → V → Prop
  | v, [], w => v = w
  | v, s :: p, w => ∃ u, Rc1 K mg H v s u ∧ Rc K mg H u p w
theorem posOf_lt {α : Type} [DecidableEq α] : ∀ {l : List α} {x : α} {j : Nat}, posOf l x = some j → j < l.length
  | [], _, _, h => by simp [posOf] at h
  | a :: r, x, j, h => by
    simp only [posOf] at h
    split at h
    · cases h; simp
    · obtain ⟨k, e, rfl⟩ := Option.map_eq_some_iff.mp h
      have := posOf_lt e
      simp; omega
theorem posOf_val : ∀ {kvs : List (Key × V)} {k : Key} {j : Nat} {u : V}, posOf (kvs.map (·.1)) k = some j → (kvs.map (·.2))[j]? = some u → valV kvs k = some u
  | [], _, _, _, h, _ => by simp [posOf] at h
  | p :: r, k, j, u, h, hu => by
    simp only [List.map_cons, posOf] at h
    split at h
    · rename_i e
      cases h
      have e' : p.1 = k := e
      rw [valV_pos e']
      simpa using hu
    · rename_i e
      obtain ⟨i, e1, rfl⟩ := Option.map_eq_some_iff.mp h
      have e' : ¬ p.1 = k := e
      rw [valV_neg e']
      exact posOf_val e1 (by simpa using hu)
theorem posOf_look : ∀ {fs : List (Str × V)} {k : Str} {j : Nat} {u : V}, posOf (fs.map (·.1)) k = some j → (fs.map (·.2))[j]? = some u → fs.lookup k = some u
  | [], _, _, _, h, _ => by simp [posOf] at h
  | p :: r, k, j, u, h, hu => by
    obtain ⟨a, b⟩ := p
    simp only [List.map_cons, posOf] at h
    split at h
    · rename_i e
      cases h
      have e' : a = k := e
      subst e'
      rw [List.lookup_cons_self]
      simpa using hu
    · rename_i e
      obtain ⟨i, e1, rfl⟩ := Option.map_eq_some_iff.mp h
      have e' : ¬ a = k := e
      rw [List.lookup_cons, show (k == a) = false from by simpa using fun h => e' h.symm]
      exact posOf_look e1 (by simpa using hu)
section
variable {K : PySem.W.Frag} {mg : Str → Option Value} {H H' Hb : Hp} {Z : Addr → Prop} {P Q Q' : PL} {v w u : V} {d t : D} {F : List Addr} {s : Stp} {j : Nat} {p q : List Stp}
theorem Rd.grow {a : Addr} {u : HO} (h : Rd H a u) (k : ∀ a o, H a = some o → H' a = some o) : Rd H' a u := Rd.keep h fun o e => k a o e
theorem SqL.grow {a : Addr} {vs : List V} (h : SqL K H a vs) (k : ∀ a o, H a = some o → H' a = some o) : SqL K H' a vs := by
  rcases h with h | h
  · exact .inl (Rd.grow h k)
  · exact .inr h
theorem Rc1.grow (h : Rc1 K mg H v s u) (k : ∀ a o, H a = some o → H' a = some o) : Rc1 K mg H' v s u := by
  cases s with
  | sub x =>
    rcases h with ⟨a, kvs, e, h, l⟩ | ⟨a, vs, i, ek, e, h, l⟩
    · exact .inl ⟨a, kvs, e, Rd.grow h k, l⟩
    · exact .inr ⟨a, vs, i, ek, e, h.imp (fun h => SqL.grow h k) (fun h => SqT.keep h fun a o e _ => k a o e), l⟩
  | fld cs n => obtain ⟨a, C, dx, fs, c, e, h, r⟩ := h; exact ⟨a, C, dx, fs, c, e, k _ _ h, r⟩
theorem Rc.grow : ∀ {p : List Stp} {v w : V}, Rc K mg H v p w → (∀ a o, H a = some o → H' a = some o) → Rc K mg H' v p w
  | [], _, _, h, _ => h
  | s :: p, v, w, ⟨u, h1, h2⟩, k => ⟨u, h1.grow k, Rc.grow h2 k⟩
theorem Rc.snoc : ∀ {p : List Stp} {v u w : V}, Rc K mg H v p u → Rc1 K mg H u s w → Rc K mg H v (p ++ [s]) w
  | [], v, u, w, e, h => by
    have e : v = u := e
    subst e
    exact ⟨w, h, rfl⟩
  | _ :: p, v, u, w, ⟨x, h1, h2⟩, h => ⟨x, h1, h2.snoc h⟩
theorem Rc.unsnoc : ∀ {p : List Stp} {v w : V}, Rc K mg H v (p ++ [s]) w → ∃ u, Rc K mg H v p u ∧ Rc1 K mg H u s w
  | [], v, w, ⟨x, h1, h2⟩ => ⟨v, rfl, by have h2 : x = w := h2; subst h2; exact h1⟩
  | _ :: p, v, w, ⟨x, h1, h2⟩ => by
    obtain ⟨u, h3, h4⟩ := Rc.unsnoc h2
    exact ⟨u, ⟨x, h1, h3⟩, h4⟩
theorem Ro1.rc (h : Ro1 K mg H v s u) : Rc1 K mg H v s u := by
  cases s with
  | sub x =>
    rcases h with ⟨a, kvs, e, h, l⟩ | ⟨a, vs, i, ek, e, h, l⟩
    · exact .inl ⟨a, kvs, e, .inl h, l⟩
    · exact .inr ⟨a, vs, i, ek, e, .inl (.inl (.inl h)), l⟩
  | fld cs n => exact h
theorem Ro.rc : ∀ {p : List Stp} {v w : V}, Ro K mg H v p w → Rc K mg H v p w
  | [], _, _, h => h
  | s :: p, v, w, ⟨u, h1, h2⟩ => ⟨u, h1.rc, h2.rc⟩
theorem Ro1.det (h : Ro1 K mg H v s u) (h' : Ro1 K mg H' v s w) (k : ∀ a o, H a = some o → H' a = some o) : u = w := by
  cases s with
  | sub x =>
    rcases h with ⟨a, kvs, e, h, l⟩ | ⟨a, vs, i, ek, e, h, l⟩ <;> rcases h' with ⟨a', kvs', e', h', l'⟩ | ⟨a', vs', i', ek', e', h', l'⟩ <;> subst e <;> cases e' <;> have z := (k _ _ h).symm.trans h' <;> cases z
    · rw [l] at l'; cases l'; rfl
    · subst ek; cases ek'; rw [l] at l'; cases l'; rfl
  | fld cs n =>
    obtain ⟨a, C, dx, fs, c, e, h, _, _, l⟩ := h
    obtain ⟨a', C', dx', fs', c', e', h', _, _, l'⟩ := h'
    subst e
    cases e'
    have z := (k _ _ h).symm.trans h'
    cases z
    rw [l] at l'; cases l'; rfl
theorem Ro.det : ∀ {p : List Stp} {v w w' : V}, Ro K mg H v p w → Ro K mg H' v p w' → (∀ a o, H a = some o → H' a = some o) → w = w'
  | [], _, _, _, h, h', _ => by
    have h1 : _ = _ := h
    have h2 : _ = _ := h'
    exact h1.symm.trans h2
  | s :: p, v, w, w', ⟨u, h1, h2⟩, ⟨u', h1', h2'⟩, k => by
    have := h1.det h1' k
    subst this
    exact h2.det h2' k
theorem Sp.conv (s : Sp K mg Z Hb H (Q ++ P)) (h : ∀ Y F, Rps K mg H Y Q F → Rps K mg H Y Q' F) : Sp K mg Z Hb H (Q' ++ P) := by
  obtain ⟨⟨F, r, nd, hb⟩, b, fr⟩ := s
  obtain ⟨F1, F2, rfl, r1, r2⟩ := r.split
  exact ⟨⟨F1 ++ F2, (h _ _ r1).append r2, nd, hb⟩, b, fr⟩
/-- an own thing opened -/
theorem Sp.open1 (s : Sp K mg Z Hb H ((v, d) :: P)) (h : ownC d = true) : ∃ (hd : D) (vs : List V), vs.length = (kids d).length ∧ Sp K mg Z Hb H ((v, hd) :: (vs.zip (kids d) ++ P)) ∧
    (∀ j st u, chN d st = some j → vs[j]? = some u → Ro1 K mg H v st u) ∧
    ∀ Z' Hb' H' P' ds', ds'.length = vs.length → Sp K mg Z' Hb' H' ((v, hd) :: (vs.zip ds' ++ P')) → Sp K mg Z' Hb' H' ((v, setKids d ds') :: P') := by
  obtain ⟨Y0, F0, r0⟩ := s.head
  cases d with
  | lst o ds =>
    cases h
    cases r0 with
    | @lstO a vs _ _ ha ts =>
      refine ⟨.raw true (.lst vs), vs, ts.len, ?_, ?_, ?_⟩
      · refine Sp.conv (Q := [(.ref a, .lst true ds)]) (Q' := (.ref a, .raw true (.lst vs)) :: vs.zip ds) s fun Y F r => ?_
        cases r with
        | cons q t => cases t; cases q with
          | lstO ha' t' =>
            have := ha.symm.trans ha'
            cases this
            simpa using Rps.cons (.rawO ha rfl trivial) t'.zip
      · intro j st u hj hu
        cases st with
        | sub k => cases k with
          | inl i => exact .inr ⟨a, vs, i, rfl, rfl, ha, by
              have hj : ixN ds.length i = some j := hj
              unfold atI; rw [ts.len, hj]; exact hu⟩
          | inr x => cases hj
        | _ => cases hj
      · intro Z' Hb' H' P' ds' hl s'
        refine Sp.conv (Q := (.ref a, .raw true (.lst vs)) :: vs.zip ds') (Q' := [(.ref a, .lst true ds')]) s' fun Y F r => ?_
        cases r with
        | cons q t => cases q with
          | rawO h' _ nm' =>
            have := Rps.cons (.lstO h' (t.unzip hl.symm)) (Rps.nil (K := K) (mg := mg) (H := H') (Z := Y))
            simpa using this
  | dct o ks ds =>
    cases h
    cases r0 with
    | @dctO a kvs _ _ _ ha hk ts =>
      obtain ⟨hk, hnd⟩ := hk
      subst hk
      refine ⟨.raw true (.dK kvs), kvs.map (·.2), ts.len, ?_, ?_, ?_⟩
      · refine Sp.conv (Q := [(.ref a, .dct true _ ds)]) (Q' := (.ref a, .raw true (.dK kvs)) :: (kvs.map (·.2)).zip ds) s fun Y F r => ?_
        cases r with
        | cons q t => cases t; cases q with
          | dctO ha' _ t' =>
            have := ha.symm.trans ha'
            cases this
            simpa using Rps.cons (.rawO ha rfl trivial) t'.zip
      · intro j st u hj hu
        cases st with
        | sub k => exact .inl ⟨a, kvs, rfl, ha, posOf_val hj hu⟩
        | _ => cases hj
      · intro Z' Hb' H' P' ds' hl s'
        refine Sp.conv (Q := (.ref a, .raw true (.dK kvs)) :: (kvs.map (·.2)).zip ds') (Q' := [(.ref a, .dct true (kvs.map (·.1)) ds')]) s' fun Y F r => ?_
        cases r with
        | cons q t => cases q with
          | rawO h' _ nm' =>
            have := Rps.cons (.dctO h' ⟨rfl, hnd⟩ (t.unzip hl.symm)) (Rps.nil (K := K) (mg := mg) (H := H') (Z := Y))
            simpa using this
  | obj o c ns ds =>
    cases h
    cases r0 with
    | @objO a C dx fs _ _ _ _ ha hc hk ts nm =>
      subst hk
      refine ⟨.raw true (.ins C dx fs), fs.map (·.2), ts.len, ?_, ?_, ?_⟩
      · refine Sp.conv (Q := [(.ref a, .obj true c _ ds)]) (Q' := (.ref a, .raw true (.ins C dx fs)) :: (fs.map (·.2)).zip ds) s fun Y F r => ?_
        cases r with
        | cons q t => cases t; cases q with
          | objO ha' _ _ t' _ =>
            have := ha.symm.trans ha'
            cases this
            simpa using Rps.cons (.rawO ha rfl nm) t'.zip
      · intro j st u hj hu
        cases st with
        | fld cs n =>
          simp only [chN] at hj
          split at hj
          · rename_i hcs
            exact ⟨a, C, dx, fs, c, rfl, ha, by simpa using hcs, hc, posOf_look hj hu⟩
          · cases hj
        | _ => cases hj
      · intro Z' Hb' H' P' ds' hl s'
        refine Sp.conv (Q := (.ref a, .raw true (.ins C dx fs)) :: (fs.map (·.2)).zip ds') (Q' := [(.ref a, .obj true c (fs.map (·.1)) ds')]) s' fun Y F r => ?_
        cases r with
        | cons q t => cases q with
          | rawO h' _ nm' =>
            have := Rps.cons (.objO h' hc rfl (t.unzip hl.symm) nm') (Rps.nil (K := K) (mg := mg) (H := H') (Z := Y))
            simpa using this
  | _ => cases h
theorem set_zip {vs : List V} {ds : List D} {j : Nat} {x : V} {e : D} (hl : vs.length = ds.length) (hj : vs[j]? = some x) : (vs.zip (ds.set j e)).Perm ((x, e) :: (vs.eraseIdx j).zip (ds.eraseIdx j)) := by
  induction vs generalizing ds j with
  | nil => simp at hj
  | cons v vs ih => cases ds with
    | nil => simp at hl
    | cons d ds => cases j with
      | zero =>
        have : v = x := by simpa using hj
        subst this
        simp
      | succ j =>
        have := ih (ds := ds) (j := j) (by simpa using hl) (by simpa using hj)
        simp only [List.set_cons_succ, List.zip_cons_cons, List.eraseIdx_cons_succ]
        exact (this.cons _).trans (.swap _ _ _)
/-- the part at a step -/
theorem Sp.child (s : Sp K mg Z Hb H ((v, d) :: P)) (h : ownC d = true) {st : Stp} (hj : chN d st = some j) {e : D} (he : (kids d)[j]? = some e) : ∃ u Z' Hc, Ro1 K mg H v st u ∧ Sp K mg Z' Hc H ((u, e) :: P) ∧
    ∀ H' e' P', Sp K mg Z' Hc H' ((u, e') :: P') → Sp K mg Z Hb H' ((v, setKids d ((kids d).set j e')) :: P') := by
  obtain ⟨hd, vs, hl, s1, rc, back⟩ := s.open1 h
  have hj' : j < vs.length := by rw [hl]; exact (List.getElem?_eq_some_iff.mp he).1
  obtain ⟨u, hu⟩ : ∃ u, vs[j]? = some u := ⟨vs[j], by simp [hj']⟩
  have hset : (kids d).set j e = kids d := by
    apply List.ext_getElem?
    intro n
    rw [List.getElem?_set]
    by_cases q : j = n
    · subst q; rw [if_pos rfl, if_pos (by rw [← hl]; exact hj'), he]
    · rw [if_neg q]
  have pm := set_zip (ds := kids d) (e := e) hl hu
  rw [hset] at pm
  have s2 : Sp K mg Z Hb H (((u, e) :: P) ++ ((v, hd) :: (vs.eraseIdx j).zip ((kids d).eraseIdx j))) := s1.perm (by
    have p1 := (pm.append_right P).cons (v, hd)
    refine p1.trans ?_
    refine List.Perm.trans (List.Perm.swap _ _ _) ?_
    refine List.Perm.cons _ ?_
    exact (List.perm_append_comm (l₁ := (v, hd) :: (vs.eraseIdx j).zip ((kids d).eraseIdx j)) (l₂ := P)))
  obtain ⟨Z', Hc, s3, lb⟩ := s2.lend
  refine ⟨u, Z', Hc, rc _ _ _ hj hu, s3, fun H' e' P' s' => ?_⟩
  have s4 := lb H' _ s'
  have pm' := set_zip (ds := kids d) (e := e') hl hu
  refine back Z Hb H' P' ((kids d).set j e') (by simp [hl]) (s4.perm ?_)
  have p1 := (pm'.append_right P').cons (v, hd)
  refine List.Perm.trans ?_ p1.symm
  refine List.Perm.trans ?_ (List.Perm.swap _ _ _)
  refine List.Perm.cons _ ?_
  exact (List.perm_append_comm (l₁ := P') (l₂ := (v, hd) :: (vs.eraseIdx j).zip ((kids d).eraseIdx j)))
end
def atO : D → List Stp → Option D
  | d, [] => some d
  | d, s :: p => if ownC d then match chN d s with
      | some j => match (kids d)[j]? with
        | some e => atO e p
        | none => none
      | none => none
    else none
def putO : D → List Stp → D → D
  | _, [], t => t
  | d, s :: p, t => match chN d s with
    | some j => match (kids d)[j]? with
      | some e => setKids d ((kids d).set j (putO e p t))
      | none => d
    | none => d
section
variable {K : PySem.W.Frag} {mg : Str → Option Value} {H H' Hb : Hp} {Z : Addr → Prop} {P : PL} {v w u : V}
/-- the own part at a path -/
theorem Sp.focus : ∀ {p : List Stp} {Z : Addr → Prop} {Hb : Hp} {v : V} {d t : D}, Sp K mg Z Hb H ((v, d) :: P) → atO d p = some t → ∃ w Z' Hc, Ro K mg H v p w ∧ Sp K mg Z' Hc H ((w, t) :: P) ∧
    ∀ H' t' P', Sp K mg Z' Hc H' ((w, t') :: P') → Sp K mg Z Hb H' ((v, putO d p t') :: P')
  | [], Z, Hb, v, d, t, s, h => by
    cases h
    exact ⟨v, Z, Hb, rfl, s, fun H' t' P' s' => s'⟩
  | st :: p, Z, Hb, v, d, t, s, h => by
    simp only [atO] at h
    split at h
    · rename_i ho
      split at h
      · rename_i j hj
        split at h
        · rename_i e he
          obtain ⟨u, Z1, H1, r1, s1, b1⟩ := s.child ho hj he
          obtain ⟨w, Z2, H2, r2, s2, b2⟩ := Sp.focus s1 h
          refine ⟨w, Z2, H2, ⟨u, r1, r2⟩, s2, fun H' t' P' s' => ?_⟩
          have := b1 H' _ P' (b2 H' t' P' s')
          simp only [putO, hj, he]
          exact this
        · cases h
      · cases h
    · cases h
/-- reading at a path: what comes is frozen -/
def walk : D → List Stp → Option (D × D)
  | d, [] => if isFz d then some (d, d) else some (fz d, fz d)
  | d, s :: p => match chN d s with
    | some j => match (kids d)[j]? with
      | some e => if ownC d then match walk e p with
          | some (t, e') => some (t, setKids d ((kids d).set j e'))
          | none => none
        else if isFz d then match walk e p with
          | some (t, _) => some (t, d)
          | none => none
        else none
      | none => none
    | none => none
theorem Rep.child {d e : D} {Y : Addr → Prop} (r : Rep K mg H Y v d []) {st : Stp} {j : Nat} (hj : chN d st = some j) (he : (kids d)[j]? = some e) : ∃ u, Rc1 K mg H v st u ∧ Rep K mg H Y u e [] := by
  cases d with
  | lst o ds =>
    cases st with
    | sub k => cases k with
      | inr x => cases hj
      | inl i =>
      have hj : ixN ds.length i = some j := hj
      cases r with
      | @lstF a vs _ ha _ ts =>
        obtain ⟨u, hu, ru⟩ := ts.get he
        exact ⟨u, .inr ⟨a, vs, i, rfl, rfl, .inl (.inl (.inl ha)), by unfold atI; rw [ts.len]; show (ixN ds.length i).bind _ = _; rw [show ixN ds.length i = some j from hj]; exact hu⟩, ru⟩
    | _ => cases hj
  | tup ds =>
    cases st with
    | sub k => cases k with
      | inr x => cases hj
      | inl i =>
      have hj : ixN ds.length i = some j := hj
      generalize e0 : ([] : List Addr) = G at r
      cases r with
      | @tup a vs _ _ ha ts =>
        subst e0
        obtain ⟨u, hu, ru⟩ := ts.get he
        exact ⟨u, .inr ⟨a, vs, i, rfl, rfl, .inr ha, by unfold atI; rw [ts.len]; show (ixN ds.length i).bind _ = _; rw [show ixN ds.length i = some j from hj]; exact hu⟩, ru⟩
    | _ => cases hj
  | dct o ks ds =>
    cases st with
    | sub k =>
      cases r with
      | @dctF a kvs _ _ ha _ hk ts =>
        obtain ⟨hk, _⟩ := hk
        subst hk
        obtain ⟨u, hu, ru⟩ := ts.get he
        exact ⟨u, .inl ⟨a, kvs, rfl, ha, posOf_val hj hu⟩, ru⟩
    | _ => cases hj
  | obj o c ns ds =>
    cases st with
    | fld cs n =>
      simp only [chN] at hj
      split at hj
      · rename_i hcs
        cases r with
        | @objF a C dx fs _ _ _ ha _ hc hk ts _ =>
          subst hk
          obtain ⟨u, hu, ru⟩ := ts.get he
          exact ⟨u, ⟨a, C, dx, fs, c, rfl, ha, by simpa using hcs, hc, posOf_look hj hu⟩, ru⟩
      · cases hj
    | _ => cases hj
  | _ => cases st <;> cases hj
theorem isFz_kids {d : D} (h : isFz d = true) : isFzs (kids d) = true := by
  cases d <;> simp_all [isFz, kids, isFzs]
theorem Rep.walk : ∀ {p : List Stp} {v : V} {d t d' : D} {Y : Addr → Prop}, Rep K mg H Y v d [] → isFz d = true → DL.walk d p = some (t, d') → d' = d ∧ isFz t = true ∧ ∃ w, Rc K mg H v p w ∧ Rep K mg H Y w t []
  | [], v, d, t, d', Y, r, hf, h => by
    simp only [DL.walk, hf, if_true] at h
    cases h
    exact ⟨rfl, hf, v, rfl, r⟩
  | st :: p, v, d, t, d', Y, r, hf, h => by
    simp only [DL.walk] at h
    split at h
    · rename_i j hj
      split at h
      · rename_i e he
        have ho : ownC d = false := by cases d <;> simp_all [isFz, ownC]
        rw [ho, hf] at h
        simp only [Bool.false_eq_true, if_false, if_true] at h
        split at h
        · rename_i t0 e' hw
          cases h
          obtain ⟨u, r1, ru⟩ := r.child hj he
          obtain ⟨_, ht, w, r2, rw'⟩ := ru.walk (isFzs_get (isFz_kids hf) he) hw
          exact ⟨rfl, ht, w, ⟨u, r1, r2⟩, rw'⟩
        · cases h
      · cases h
    · cases h
theorem Sp.walk : ∀ {p : List Stp} {Z : Addr → Prop} {Hb : Hp} {v : V} {d t d' : D}, Sp K mg Z Hb H ((v, d) :: P) → DL.walk d p = some (t, d') → ∃ w, Rc K mg H v p w ∧ Sp K mg Z Hb H ((w, t) :: (v, d') :: P)
  | [], Z, Hb, v, d, t, d', s, h => by
    simp only [DL.walk] at h
    split at h
    · rename_i hf
      cases h
      exact ⟨v, rfl, s.dup hf⟩
    · cases h
      exact ⟨v, rfl, s.freeze.dup (isFz_fz d)⟩
  | st :: p, Z, Hb, v, d, t, d', s, h => by
    have h0 := h
    simp only [DL.walk] at h
    split at h
    · rename_i j hj
      split at h
      · rename_i e he
        split at h
        · rename_i ho
          split at h
          · rename_i t0 e' hw
            cases h
            obtain ⟨u, Z1, H1, r1, s1, b1⟩ := s.child ho hj he
            obtain ⟨w, r2, s2⟩ := Sp.walk s1 hw
            exact ⟨w, ⟨u, r1.rc, r2⟩, (b1 H _ _ (s2.perm (.swap _ _ _))).perm (.swap _ _ _)⟩
          · cases h
        · split at h
          · rename_i hf
            -- all of it is frozen
            obtain ⟨⟨F, r, nd, hb⟩, b, fr⟩ := s
            cases r with
            | cons q tl =>
              have e0 := q.own_nil hf
              subst e0
              obtain ⟨e1, ht, w, rc, rw'⟩ := q.walk hf h0
              subst e1
              exact ⟨w, rc, ⟨_, .cons (F := []) rw' (.cons (F := []) q tl), nd, hb⟩, b, fr⟩
          · cases h
      · cases h
    · cases h
end
end DL
set_option Elab.async false
set_option linter.all false
set_option maxRecDepth 100000
set_option maxHeartbeats 4000001
namespace DL
open PySem.Spec PySem L2 PyProof.Rows
abbrev Grows (H H' : Hp) : Prop := ∀ a o, H a = some o → H' a = some o
section
variable {X : Cx} {Z : Addr → Prop} {Hb H H' : Hp} {σ : L2.St} {δ : Env} {L : PL} {v : V} {d : D} {i : Nat}
theorem Sq.out (s : Sq X Z Hb H σ δ L) (hv : σ[i]? = some (some v)) (hd : δ[i]? = some (some d)) : Sp X.K X.mg Z Hb H ((v, d) :: (L ++ prs σ (δ.set i none))) :=
  s.sp.perm (((prs_get hv hd).append_left L).trans List.perm_middle)
theorem Sq.back {d' : D} (dm : Dom σ δ) (hv : σ[i]? = some (some v)) (hd : δ[i]? = some (some d)) {L' : PL} (s : Sp X.K X.mg Z Hb H ((v, d') :: (L' ++ prs σ (δ.set i none)))) : Sq X Z Hb H σ (δ.set i (some d')) L' :=
  ⟨s.perm (((prs_back hv hd).append_left L').trans List.perm_middle).symm, dm.setD hd _⟩
/-- reckoned without effect; the heap grows only -/
theorem pure_run {e : Expr} (m : List Bool) {f : ME} (h : IG X e f) {d : D} {δ0 : Env} (s : Sq X Z Hb H σ δ L) (hf : f (fzE (keepM m δ)) = some (d, δ0)) (hn : noal d = true) (Q : VK) (q : ∀ v H', Grows H H' → Sq X Z Hb H' σ δ ((v, d) :: L) → Q v H') : wE X e σ H Q := by
  have s1 : Sp X.K X.mg Z Hb H (prs σ (keepM m δ) ++ (prs σ (restM m δ) ++ L)) := s.sp.perm (((prs_split m σ δ).append_left L).trans (by
    rw [← List.append_assoc (prs σ (keepM m δ))]
    exact List.perm_append_comm))
  obtain ⟨Z', sp, back⟩ := s1.pure
  have sq : Sq X Z' H H σ (fzE (keepM m δ)) [] := ⟨by rw [prs_fzE]; exact sp, s.dom.keepM m⟩
  refine h sq hf Q fun v H' s' => q v H' s'.sp.base ?_
  obtain ⟨b1, b2⟩ := back H' v d _ s'.sp
  refine ⟨(b1 hn).perm ((?_ : List.Perm _ _).cons _), s.dom⟩
  refine List.Perm.trans ?_ ((prs_split m σ δ).symm.append_left L)
  rw [← List.append_assoc]
  exact List.perm_append_comm
end
abbrev MK := Env → Option D
def IK (X : Cx) (e : Expr) (m : MK) : Prop := ∀ {Z : Addr → Prop} {Hb H : Hp} {σ : L2.St} {δ : Env} {L : PL} {d : D}, Sq X Z Hb H σ δ L → m δ = some d →
  ∀ Q : VK, (∀ v H', Grows H H' → Sq X Z Hb H' σ δ ((v, d) :: L) → Q v H') → wE X e σ H Q
def kPur (m : List Bool) (f : ME) : MK := fun δ => match f (fzE (keepM m δ)) with
  | some (d, _) => if noal d then some d else none
  | none => none
theorem ik_pur {X : Cx} {e : Expr} (m : List Bool) {f : ME} (h : IG X e f) : IK X e (kPur m f) := by
  intro Z Hb H σ δ L d s e' Q q
  unfold kPur at e'
  split at e'
  · rename_i d0 δ0 hf
    split at e'
    · rename_i hn
      cases e'
      exact pure_run m h s hf hn Q q
    · cases e'
  · cases e'
/-- a list of arguments, reckoned without effect -/
abbrev MKs := Env → Option (List D)
def IKs (X : Cx) (es : List Expr) (m : MKs) : Prop := ∀ {Z : Addr → Prop} {Hb H : Hp} {σ : L2.St} {δ : Env} {L : PL} {ds : List D}, Sq X Z Hb H σ δ L → m δ = some ds →
  ∀ Q : List V → Hp → Prop, (∀ vs H', vs.length = ds.length → Grows H H' → Sq X Z Hb H' σ δ (vs.zip ds ++ L) → Q vs H') → wA X es σ H Q
def ksNil : MKs := fun _ => some []
def ksCons (a : MK) (r : MKs) : MKs := fun δ => match a δ with
  | some d => match r δ with
    | some ds => some (d :: ds)
    | none => none
  | none => none
section
variable {X : Cx} {e : Expr} {es : List Expr} {m : MK} {r : MKs}
theorem iks_nil : IKs X [] ksNil := by
  intro Z Hb H σ δ L ds s e Q q
  cases e
  exact wA_of pa_nil (q [] H rfl (fun _ _ h => h) s)
theorem iks_cons (h : IK X e m) (t : IKs X es r) (hs : starEach (e :: es) X.env = (false, eval e X.env) :: starEach es X.env) : IKs X (e :: es) (ksCons m r) := by
  intro Z Hb H σ δ L ds s e' Q q
  unfold ksCons at e'
  split at e'
  · rename_i d e1
    split at e'
    · rename_i ds' e2
      cases e'
      refine wA_of (pa_cons pe_w pa_w hs) (h s e1 _ fun v H1 g1 s1 => t s1 e2 _ fun vs H2 hl g2 s2 => q (v :: vs) H2 (by simp [hl]) (fun a o x => g2 a o (g1 a o x)) (s2.perm ?_))
      exact List.perm_middle
    · cases e'
  · cases e'
end
abbrev MP := Env → Option (List Stp)
def IP (X : Cx) (e : Expr) (i : Nat) (m : MP) : Prop := ∀ {Z : Addr → Prop} {Hb H : Hp} {σ : L2.St} {δ : Env} {L : PL} {p : List Stp} {v w : V}, Sq X Z Hb H σ δ L → m δ = some p → σ[i]? = some (some v) → Rc X.K X.mg H v p w →
  ∀ Q : VK, (∀ H', Grows H H' → Q w H') → wE X e σ H Q
def pVar : MP := fun _ => some []
def pSub (a : MP) (b : MK) : MP := fun δ => match a δ with
  | some p => match b δ with
    | some d => match keyD d with
      | some k => some (p ++ [.sub k])
      | none => none
    | none => none
  | none => none
def pFld (a : MP) (cs : List Str) (n : Str) : MP := fun δ => match a δ with
  | some p => some (p ++ [.fld cs n])
  | none => none
section
variable {X : Cx} {e b : Expr} {i : Nat} {m : MP} {k : MK} {pos : Pos}
theorem ip_var {x : Str} (i : Nat) (hp : PE X (.Name x pos) (tVar i)) : IP X (.Name x pos) i pVar := by
  intro Z Hb H σ δ L p v w s e hv hr Q q
  cases e
  have hr : v = w := hr
  subst hr
  exact wE_of hp ⟨v, hv, q H fun _ _ h => h⟩
theorem sub_run (hu : X.A.units + 1 < cLine) {u w : V} {k : Key} {H : Hp} {Q : VK} (r : Rc1 X.K X.mg H u (.sub k) w) (q : Q w H) : wX X u (kV k) H Q := by
  rcases r with ⟨a, kvs, e, h, l⟩ | ⟨a, vs, i, ek, e, h, l⟩
  · exact ix_dictW hu e (by rw [← l]; exact dgetR h) q
  · subst ek
    rcases h with h | h
    · exact wX_of ix_list ⟨a, vs, i, w, e, rfl, h, l, q⟩
    · exact wX_of ix_tup ⟨a, vs, i, w, e, rfl, h, l, q⟩
theorem ip_sub (hu : X.A.units + 65 < cLine) (h : IP X e i m) (hk : IK X b k) (hs : PlainIx b) : IP X (.Subscript e b pos) i (pSub m k) := by
  intro Z Hb H σ δ L p v w s e' hv hr Q q
  unfold pSub at e'
  split at e'
  · rename_i p0 e1
    split at e'
    · rename_i d e2
      split at e'
      · rename_i kk e3
        cases e'
        obtain ⟨u, r1, r2⟩ := hr.unsnoc
        refine wE_of (pe_ix ixr_w pe_w pe_w hs) (h s e1 hv r1 _ fun H1 g1 => ?_)
        have s1 : Sq X Z Hb H1 σ δ L := ⟨s.sp.grow g1, s.dom⟩
        refine hk s1 e2 _ fun y H2 g2 s2 => ?_
        have hy : y = kV kk := Sp.key s2.sp e3
        subst hy
        exact sub_run (by omega) (r2.grow fun a o x => g2 a o (g1 a o x)) (q H2 fun a o x => g2 a o (g1 a o x))
      · cases e'
    · cases e'
  · cases e'
/-- what stands at a place -/
def mPath (i : Nat) (m : MP) : ME := fun δ => match δ[i]? with
  | some (some d) => match m δ with
    | some p => match walk d p with
      | some (t, d') => some (t, δ.set i (some d'))
      | none => none
    | none => none
  | _ => none
theorem ig_path (h : IP X e i m) : IG X e (mPath i m) := by
  intro Z Hb H σ δ L d δ' s e' Q q
  unfold mPath at e'
  split at e'
  · rename_i d0 hd
    split at e'
    · rename_i p e1
      split at e'
      · rename_i t d' e2
        cases e'
        obtain ⟨v, hv⟩ := s.dom.2 i d0 hd
        obtain ⟨w, rc, s1⟩ := (s.out hv hd).walk e2
        refine h s e1 hv rc Q fun H1 g1 => q w H1 ?_
        have s2 := (s1.grow g1).perm (.swap _ _ _)
        exact Sq.back (L' := (w, d) :: L) s.dom hv hd s2
      · cases e'
    · cases e'
  · cases e'
end
def wSet (X : Cx) : TSet := fun o i v H Q => ∀ pins s σ ov iv u, Inv X pins σ H s → RelV o ov → RelV i iv → RelV v u → wpAny (model X.prog X.w) X.A (setItem ov iv u) (fun _ s' => ∃ H', Inv X pins σ H' s' ∧ Q H') X.xe s
theorem pset_w {X : Cx} : PSet X (wSet X) := fun pins s σ H o i v ov iv u Q I r1 r2 r3 h => h pins s σ ov iv u I r1 r2 r3
theorem wSet_of {X : Cx} {t : TSet} (h : PSet X t) {o i v : V} {H : Hp} {Q : Hp → Prop} (q : t o i v H Q) : wSet X o i v H Q := fun pins s σ ov iv u I r1 r2 r3 => h pins s σ H o i v ov iv u Q I r1 r2 r3 q
def dSetIt : D → D → D → Option D
  | .lst true ds, .int i, x => (ixN ds.length i).map fun j => .lst true (ds.set j x)
  | .dct true ks ds, y, x => match keyD y with
    | some k => if ks.length < sizeLine then match posOf ks k with
      | some j => some (.dct true ks (ds.set j x))
      | none => some (.dct true (ks ++ [k]) (ds ++ [x])) else none
    | none => none
  | _, _, _ => none
theorem posOf_none {kvs : List (Key × V)} {k : Key} (h : posOf (kvs.map (·.1)) k = none) : valV kvs k = none := by
  induction kvs with
  | nil => rfl
  | cons p r ih =>
    simp only [List.map_cons, posOf] at h
    split at h
    · cases h
    · rename_i e
      rw [valV_neg e]
      exact ih (by simpa using h)
theorem repl_id {k : Key} {x : V} : ∀ {kvs : List (Key × V)}, k ∉ kvs.map (·.1) → kvs.map (fun kv => if kv.1 = k then (kv.1, x) else kv) = kvs
  | [], _ => rfl
  | p :: r, h => by
    have h1 : ¬ p.1 = k := fun e => h (by simp [e])
    rw [List.map_cons, if_neg h1, repl_id fun m => h (List.mem_cons_of_mem _ m)]
theorem posOf_key {α : Type} [DecidableEq α] : ∀ {l : List α} {x : α} {j : Nat}, posOf l x = some j → l[j]? = some x
  | [], _, _, h => by simp [posOf] at h
  | a :: r, x, j, h => by
    simp only [posOf] at h
    split at h
    · rename_i e
      cases h
      rw [e]; rfl
    · obtain ⟨k, e, rfl⟩ := Option.map_eq_some_iff.mp h
      simpa using posOf_key e
theorem putK_at {k : Key} {x : V} : ∀ {kvs : List (Key × V)} {j : Nat}, posOf (kvs.map (·.1)) k = some j → (kvs.map (·.1)).Nodup → kvs.map (fun kv => if kv.1 = k then (kv.1, x) else kv) = kvs.set j (k, x)
  | [], _, h, _ => by simp [posOf] at h
  | p :: r, j, h, nd => by
    simp only [List.map_cons, posOf] at h
    have nd' := List.nodup_cons.mp nd
    split at h
    · rename_i e
      cases h
      rw [List.map_cons, if_pos e, repl_id (by rw [← e]; exact nd'.1), e]
      rfl
    · rename_i e
      obtain ⟨i, e1, rfl⟩ := Option.map_eq_some_iff.mp h
      rw [List.map_cons, if_neg e, putK_at e1 nd'.2]
      rfl
theorem putK_pos {k : Key} {x : V} {kvs : List (Key × V)} {j : Nat} (h : posOf (kvs.map (·.1)) k = some j) (nd : (kvs.map (·.1)).Nodup) : putK kvs k x = kvs.set j (k, x) := by
  unfold putK
  have hv : (valV kvs k).isSome = true := by
    have hj := posOf_lt h
    rw [List.length_map] at hj
    rw [posOf_val (u := kvs[j].2) h (by simp [hj])]
    rfl
  rw [valV_any, if_pos hv]
  exact putK_at h nd
section
variable {X : Cx} {Z : Addr → Prop} {Hb H : Hp} {P : PL} {v w x y : V} {t dk dv t' : D}
theorem set_perm {vs : List V} {ds : List D} {j : Nat} (hl : vs.length = ds.length) (hj : j < vs.length) : (vs.zip ds ++ ((x, dv) :: P)).Perm ((vs.set j x).zip (ds.set j dv) ++ ((vs[j], ds[j]'(by omega)) :: P)) := by
  have hu : vs[j]? = some vs[j] := by simp [hj]
  have p1 := set_zip (ds := ds) (e := ds[j]'(by omega)) hl hu
  have hset : ds.set j (ds[j]'(by omega)) = ds := by simp
  rw [hset] at p1
  have p2 := set_zip (vs := vs.set j x) (ds := ds) (x := x) (e := dv) (j := j) (by simp [hl]) (by simp [hj])
  have e1 : (vs.set j x).eraseIdx j = vs.eraseIdx j := by
    rw [List.eraseIdx_set_eq]
  rw [e1] at p2
  refine (p1.append_right _).trans ((List.Perm.trans ?_ (p2.append_right _).symm))
  refine List.Perm.trans (List.Perm.cons _ List.perm_middle) ?_
  refine List.Perm.trans (List.Perm.swap _ _ _) ?_
  exact List.Perm.cons _ List.perm_middle.symm
theorem set_run (hu : X.A.units + 1 < cLine) (s : Sp X.K X.mg Z Hb H ((w, t) :: (y, dk) :: (x, dv) :: P)) (e : dSetIt t dk dv = some t') (Q : Hp → Prop) (q : ∀ H', Sp X.K X.mg Z Hb H' ((w, t') :: P) → Q H') : wSet X w y x H Q := by
  unfold dSetIt at e
  split at e
  · rename_i ds i
    obtain ⟨j, e1, rfl⟩ := Option.map_eq_some_iff.mp e
    have s1 := s.perm (.swap _ _ _)
    have hy := s1.int
    subst hy
    obtain ⟨Y, F, r⟩ := s.head
    obtain ⟨a, rfl⟩ : ∃ a, w = .ref a := by cases r; exact ⟨_, rfl⟩
    obtain ⟨vs, ha, hl, back⟩ := s1.drop.mutL
    have hj : j < vs.length := by rw [hl]; exact (ixN_seq e1).2.1
    refine wSet_of set_list ⟨a, vs, i, j, rfl, rfl, ha, by rw [hl]; exact e1, q _ ?_⟩
    have s2 := back (vs.set j x) (ds.set j dv) _ (by simp [hl]) (set_perm hl hj)
    exact (s2.perm (.swap _ _ _)).drop
  · rename_i ks ds
    split at e
    · rename_i k ek
      have s1 := s.perm (.swap _ _ _)
      have hy := s1.key ek
      subst hy
      obtain ⟨Y, F, r⟩ := s.head
      obtain ⟨a, rfl⟩ : ∃ a, w = .ref a := by cases r; exact ⟨_, rfl⟩
      obtain ⟨kvs, ha, ⟨hk, hnd⟩, hl, back⟩ := s1.drop.mutK
      subst hk
      split at e
      · rename_i hz
        have hz' : kvs.length < sizeLine := by simpa using hz
        have go : Q (upd H a (.dK (putK kvs k x))) → wSet X (.ref a) (kV k) x H Q := by
          intro qH pins s0 σ ov iv u I r1 r2 r3
          cases r1
          exact d_setItem hu I (.k ha hz') r2 r3 fun s4 I4 => ⟨_, I4, qH⟩
        split at e
        · rename_i j e2
          cases e
          have hj : j < (kvs.map (·.2)).length := by have := posOf_lt e2; simpa using this
          refine go (q _ ?_)
          rw [putK_pos e2 hnd]
          have hkk : (kvs.set j (k, x)).map (·.1) = kvs.map (·.1) := by
            rw [List.map_set]
            apply List.ext_getElem?
            intro n
            rw [List.getElem?_set]
            by_cases hjn : j = n
            · subst hjn
              rw [if_pos rfl, if_pos (posOf_lt e2)]
              exact (posOf_key e2).symm
            · rw [if_neg hjn]
          have hvv : (kvs.set j (k, x)).map (·.2) = (kvs.map (·.2)).set j x := by rw [List.map_set]
          have s2 := back (kvs.set j (k, x)) (ds.set j dv) _ (by simp [hl]) (by rw [hkk]; exact hnd) (by rw [hvv]; exact set_perm (by simpa using hl) hj)
          rw [hkk] at s2
          exact (s2.perm (.swap _ _ _)).drop
        · rename_i e2
          cases e
          have hn := posOf_none e2
          refine go (q _ ?_)
          rw [putK_new x hn]
          have s2 := back (kvs ++ [(k, x)]) (ds ++ [dv]) P (by simp [hl]) (by
            rw [List.map_append]
            exact nd_snoc hnd (valV_not hn)) (by
            rw [List.map_append, zip_append (by simpa using hl), List.append_assoc]
            exact List.Perm.refl _)
          rw [List.map_append] at s2
          exact s2
      · cases e
    · cases e
  · cases e
end
end DL
set_option Elab.async false
set_option linter.all false
set_option maxRecDepth 100000
set_option maxHeartbeats 4000001
namespace DL
open PySem.Spec PySem L2 PyProof.Rows
def sPut (i : Nat) (m : MP) (k : MK) (e : ME) : MS := fun δ => match e δ with
  | some (dv, δ1) => match δ1[i]? with
    | some (some d) => match m δ1 with
      | some p => match k δ1 with
        | some dk => match atO d p with
          | some t => match dSetIt t dk dv with
            | some t' => some (.nx (δ1.set i (some (putO d p t'))))
            | none => none
          | none => none
        | none => none
      | none => none
    | _ => none
  | none => none
def dSetF (cs : List Str) (f : Str) : D → D → Option D
  | .obj true c ns ds, x => if cs.contains c ∧ ns.length < 1000 then match posOf ns f with
      | some j => some (.obj true c ns (ds.set j x))
      | none => some (.obj true c (ns ++ [f]) (ds ++ [x])) else none
  | _, _ => none
def sPutF (i : Nat) (m : MP) (cs : List Str) (f : Str) (e : ME) : MS := fun δ => match e δ with
  | some (dv, δ1) => match δ1[i]? with
    | some (some d) => match m δ1 with
      | some p => match atO d p with
        | some t => match dSetF cs f t dv with
          | some t' => some (.nx (δ1.set i (some (putO d p t'))))
          | none => none
        | none => none
      | none => none
    | _ => none
  | none => none
section
variable {X : Cx} {P : Nat → Bool} {o b e : Expr} {i : Nat} {m : MP} {k : MK} {v : ME} {pos pos' : Pos} {f : Str}
theorem keyRep {Z : Addr → Prop} {Hb H3 : Hp} {σ : L2.St} {δ : Env} {L : PL} {y : V} {dk : D} (s : Sq X Z Hb H3 σ δ ((y, dk) :: L)) (h : (∃ i, dk = .int i) ∨ ∃ k, keyD dk = some k) : ∀ Y, Rep X.K X.mg H3 Y y dk [] := by
  intro Y
  rcases h with ⟨j, rfl⟩ | ⟨kk, ek⟩
  · rw [Sp.int s.sp]; exact .int
  · have hy := Sp.key s.sp ek
    unfold keyD at ek
    split at ek
    · cases ek; rw [hy]; exact .int
    · cases ek; rw [hy]; exact .str
    · cases ek
theorem is_put (hu : X.A.units + 65 < cLine) (he : IG X e v) (ho : IP X o i m) (hk : IK X b k)
    (ha : ∀ v, assign (.Subscript o b pos') X.env v = (do
      let ov ← (holding [v] (eval o X.env))
      let iv ← holding [v, ov] (eval b X.env)
      standAt pos'
      (holding [v, ov, iv] (setItem ov iv v))
      release [v, ov, iv] []))
    (hs : swapsWithSole [.Subscript o b pos'] e pos.line X.env = pure false) (hw : swappedStores [.Subscript o b pos'] e X.env = pure none)
    (h1 : (assignEach [.Subscript o b pos'] X.env).map (·.2) = [assign (.Subscript o b pos') X.env]) : IS X P (.Assign [.Subscript o b pos'] e pos) (sPut i m k v) := by
  intro Z Hb H σ δ L fl s e' Dn f
  unfold sPut at e'
  split at e'
  · rename_i dv δ1 e1
    split at e'
    · rename_i d hd
      split at e'
      · rename_i p e2
        split at e'
        · rename_i dk e3
          split at e'
          · rename_i t e4
            split at e'
            · rename_i t' e5
              cases e'
              refine wS_of (ps_asg pe_w (pg_sub (t := wSet X) pe_w pe_w pset_w ha) hs hw h1) (he s e1 _ fun x H1 s1 => ?_)
              obtain ⟨vv, hv⟩ := s1.dom.2 i d hd
              obtain ⟨w, Z', Hc, rc, s2, back⟩ := (s1.out hv hd).focus e4
              refine ho s1 e2 hv rc.rc _ fun H2 g2 => ?_
              have s1' : Sq X Z Hb H2 σ δ1 ((x, dv) :: L) := ⟨s1.sp.grow g2, s1.dom⟩
              -- the key, while the part is held
              refine hk s1' e3 _ fun y H3 g3 s3 => ?_
              have hy : ∀ Y, Rep X.K X.mg H3 Y y dk [] := keyRep s3 (by
                unfold dSetIt at e5
                split at e5
                · exact .inl ⟨_, rfl⟩
                · split at e5
                  · rename_i kk ek
                    exact .inr ⟨kk, ek⟩
                  · cases e5
                · cases e5)
              have s4 : Sp X.K X.mg Z' Hc H3 ((w, t) :: (x, dv) :: (L ++ prs σ (δ1.set i none))) := (s2.grow fun a u z => g3 a u (g2 a u z))
              have s5 := (s4.put hy).perm (.swap _ _ _)
              refine set_run (by omega) s5 e5 _ fun H4 s6 => f σ H4 ?_ .refl
              exact Sq.back (L' := L) s1.dom hv hd (back H4 t' _ s6)
            · cases e'
          · cases e'
        · cases e'
      · cases e'
    · cases e'
  · cases e'
theorem lookup_put {f g : Str} {x : V} (h : g ≠ f) : ∀ fs : List (Str × V), (putF f x fs).lookup g = fs.lookup g
  | [] => by
    have : (g == f) = false := by simpa using h
    simp [putF, List.lookup, this]
  | (a, c) :: r => by
    unfold putF
    split
    · rename_i e
      have : (g == f) = false := by simpa using h
      simp only [List.lookup_cons]
      have e2 : (g == a) = false := by rw [e]; exact this
      rw [e2]
    · simp only [List.lookup_cons, lookup_put h r]
theorem NmU.put {H : Hp} {a C dx : Addr} {fs : List (Str × V)} {f : Str} {x : V} (m : NmU H (.ins C dx fs)) (ha : H a = some (.ins C dx fs)) (hf : ("names" : Str) ≠ f) : NmU (upd H a (.ins C dx (putF f x fs))) (.ins C dx (putF f x fs)) := fun t e => by
  rw [lookup_put hf] at e
  obtain ⟨o, xs, h, d⟩ := m t e
  exact ⟨o, xs, by rw [upd_ne fun q => by rw [q, ha] at h; cases h]; exact h, d⟩
end
def wM (X : Cx) (id : String) : V → List V → Hp → VK → Prop := fun x xs H Q => ∀ pins s σ v us, Inv X pins σ H s → RelV x v → Vals xs us → wpAny (model X.prog X.w) X.A (call (.builtin id) (v :: us)) (EP X pins σ Q) X.xe s
theorem mtr_w {X : Cx} {id : String} : MtR X id (wM X id) := fun pins s σ H x xs v us Q I r1 r2 h => h pins s σ v us I r1 r2
theorem wM_of {X : Cx} {id : String} {r : V → List V → Hp → VK → Prop} (h : MtM X id r) {x : V} {xs : List V} {H : Hp} {Q : VK} (q : r x xs H Q) : wM X id x xs H Q := fun pins s σ v us I r1 r2 => h pins s σ H x xs v us Q I r1 r2 q
def tyD (T : String) : D → Bool
  | .str _ => T == "str"
  | .lst _ _ => T == "list"
  | .scr _ => T == "list"
  | .dct o _ _ => o && T == "dict"
  | _ => false
theorem tyD_ok {K : PySem.W.Frag} {mg : Str → Option Value} {H Hb : Hp} {Z : Addr → Prop} {P : PL} {v : V} {d : D} {T : String} (s : Sp K mg Z Hb H ((v, d) :: P)) (h : tyD T d = true) : tyV K T v H := by
  obtain ⟨Y, F, r⟩ := s.head
  cases r with
  | str =>
    show T = "str"
    simpa [tyD] using h
  | lstF ha _ _ => exact .inl ⟨by simpa [tyD] using h, _, .of ha⟩
  | lstO ha _ => exact .inl ⟨by simpa [tyD] using h, _, .of ha⟩
  | scr ha _ => exact .inl ⟨by simpa [tyD] using h, _, ha.sq⟩
  | dctF ha _ _ _ => simp [tyD] at h
  | dctO ha _ _ => exact .inr (.inr (.inl ⟨by simpa [tyD] using h, .inl ⟨_, ha⟩⟩))
  | _ => cases h
/-- a method that changes its thing -/
def MB (X : Cx) (id : String) (g : D → List D → Option (D × D)) : Prop := ∀ {Z : Addr → Prop} {Hb H : Hp} {P : PL} {w : V} {vs : List V} {t : D} {ds : List D} {r t' : D}, vs.length = ds.length → Sp X.K X.mg Z Hb H ((w, t) :: (vs.zip ds ++ P)) → g t ds = some (r, t') →
  ∀ Q : VK, (∀ v H', Sp X.K X.mg Z Hb H' ((v, r) :: (w, t') :: P) → Q v H') → wM X id w vs H Q
/-- x.m(..): the thing stands in a slot -/
def mMeth (T : String) (g : D → List D → Option (D × D)) (i : Nat) (r : ML) : ME := fun δ => match δ[i]? with
  | some (some d) => if tyD T d then match r δ with
      | some (ds, δ1) => match δ1[i]? with
        | some (some d1) => match g d1 ds with
          | some (a, d2) => some (a, δ1.set i (some d2))
          | none => none
        | _ => none
      | none => none
    else none
  | _ => none
/-- p.m(..): at a place; the arguments have no effect -/
def mMethP (T : String) (g : D → List D → Option (D × D)) (i : Nat) (m : MP) (r : MKs) : ME := fun δ => match δ[i]? with
  | some (some d) => match m δ with
    | some p => match atO d p with
      | some t => if tyD T t then match r δ with
          | some ds => match g t ds with
            | some (a, t') => some (a, δ.set i (some (putO d p t')))
            | none => none
          | none => none
        else none
      | none => none
    | none => none
  | _ => none
/-- e.m(..): nothing changes -/
def BM (X : Cx) (id : String) (g : D → List D → Option D) : Prop := ∀ {Z : Addr → Prop} {Hb H : Hp} {P : PL} {w : V} {vs : List V} {t : D} {ds : List D} {r : D}, vs.length = ds.length → Sp X.K X.mg Z Hb H ((w, t) :: (vs.zip ds ++ P)) → g t ds = some r →
  ∀ Q : VK, (∀ v H', Sp X.K X.mg Z Hb H' ((v, r) :: P) → Q v H') → wM X id w vs H Q
def mMethV (T : String) (g : D → List D → Option D) (a : ME) (r : ML) : ME := fun δ => match a δ with
  | some (d, δ1) => if tyD T d then match r δ1 with
      | some (ds, δ2) => match g d ds with
        | some x => some (x, δ2)
        | none => none
      | none => none
    else none
  | none => none
section
variable {X : Cx} {o e : Expr} {es : List Expr} {name : Str} {apos cpos : Pos} {T id : String} {g : D → List D → Option (D × D)} {g' : D → List D → Option D} {i : Nat} {m : MP} {r : ML} {rk : MKs} {a : ME}
theorem ig_methP (pa : PlainAttrs T) (slot : Slot T name id) (hty : typeOf (.builtin id) = pure (.type "method_descriptor")) (hg : MB X id g) (ho : IP X o i m) (ha : IKs X (e :: es) rk)
    (hbase : attributeBase o name X.env (eval o X.env) = eval o X.env) (hfew : ((backTo cpos (starEach (e :: es) X.env)).all (fun x => !x.1) && (backToKw cpos (keywordEach [] X.env)).all (fun x => x.1.isSome)
      && decide ((e :: es).length + ([] : List Keyword).length + (if ([] : List Keyword).isEmpty then 0 else 1) < 30)) = true)
    (hline : (apos.endLine == cpos.line) = true) (hs : starEach (e :: es) X.env = (false, eval e X.env) :: starEach es X.env) (hplain : (backTo cpos (starEach es X.env)).any (·.1) = false) :
    IG X (.Call (.Attribute o name apos) (e :: es) [] cpos) (mMethP T g i m rk) := by
  intro Z Hb H σ δ L d δ' s e' Q q
  unfold mMethP at e'
  split at e'
  · rename_i d0 hd
    split at e'
    · rename_i p e1
      split at e'
      · rename_i t e2
        split at e'
        · rename_i ht
          split at e'
          · rename_i ds e3
            split at e'
            · rename_i x t' e4
              cases e'
              obtain ⟨v, hv⟩ := s.dom.2 i d0 hd
              obtain ⟨w, Z', Hc, rc, s2, back⟩ := (s.out hv hd).focus e2
              refine wE_of (pe_bm pa slot hty mtr_w pe_w pa_w hbase hfew hline hs hplain) (ho s e1 hv rc.rc _ fun H1 g1 => ⟨tyD_ok (s2.grow g1) ht, ?_⟩)
              refine ha ⟨s.sp.grow g1, s.dom⟩ e3 _ fun vs H2 hl g2 s3 => ?_
              obtain ⟨w', Z2, Hc2, rc', s4, back'⟩ := (s3.out hv hd).focus e2
              have ew := rc.det rc' fun a o z => g2 a o (g1 a o z)
              subst ew
              rw [List.append_assoc] at s4
              refine hg hl s4 e4 Q fun u H3 s5 => q u H3 ?_
              exact Sq.back (L' := (u, d) :: L) s.dom hv hd (back' H3 t' _ (s5.perm (.swap _ _ _)))
            · cases e'
          · cases e'
        · cases e'
      · cases e'
    · cases e'
  · cases e'
theorem ig_methV (pa : PlainAttrs T) (slot : Slot T name id) (hty : typeOf (.builtin id) = pure (.type "method_descriptor")) (hg : BM X id g') (ho : IG X o a) (ha : IL X (e :: es) r)
    (hbase : attributeBase o name X.env (eval o X.env) = eval o X.env) (hfew : ((backTo cpos (starEach (e :: es) X.env)).all (fun x => !x.1) && (backToKw cpos (keywordEach [] X.env)).all (fun x => x.1.isSome)
      && decide ((e :: es).length + ([] : List Keyword).length + (if ([] : List Keyword).isEmpty then 0 else 1) < 30)) = true)
    (hline : (apos.endLine == cpos.line) = true) (hs : starEach (e :: es) X.env = (false, eval e X.env) :: starEach es X.env) (hplain : (backTo cpos (starEach es X.env)).any (·.1) = false) :
    IG X (.Call (.Attribute o name apos) (e :: es) [] cpos) (mMethV T g' a r) := by
  intro Z Hb H σ δ L d δ' s e' Q q
  unfold mMethV at e'
  split at e'
  · rename_i d0 δ1 e1
    split at e'
    · rename_i ht
      split at e'
      · rename_i ds δ2 e2
        split at e'
        · rename_i x e4
          cases e'
          refine wE_of (pe_bm pa slot hty mtr_w pe_w pa_w hbase hfew hline hs hplain) (ho s e1 _ fun v H1 s1 => ⟨tyD_ok s1.sp ht, ?_⟩)
          refine ha s1 e2 _ fun vs H2 hl s2 => ?_
          have s3 : Sp X.K X.mg Z Hb H2 ((v, d0) :: (vs.zip ds ++ (L ++ prs σ δ'))) := s2.sp.perm (by
            rw [List.append_assoc]
            exact List.perm_middle)
          exact hg hl s3 e4 Q fun u H3 s4 => q u H3 ⟨s4, s2.dom⟩
        · cases e'
      · cases e'
    · cases e'
  · cases e'
end
end DL
set_option Elab.async false
set_option linter.all false
set_option maxRecDepth 100000
set_option maxHeartbeats 4000001
namespace DL
open PySem.Spec PySem L2 PyProof.Rows
section
variable {X : Cx}
def gAppend : D → List D → Option (D × D)
  | .lst true ds, [x] => if ds.length < sizeLine then some (.non, .lst true (ds ++ [x])) else none
  | _, _ => none
theorem zip_out {ws : List V} {es : List D} (hl : ws.length = es.length) {j : Nat} {x : D} (hx : es[j]? = some x) : ∃ y, ws[j]? = some y ∧ (ws.zip es).Perm ((y, x) :: (ws.eraseIdx j).zip (es.eraseIdx j)) := by
  have hj := (List.getElem?_eq_some_iff.mp hx).1
  have hu : ws[j]? = some (ws[j]'(by omega)) := by simp [hl, hj]
  have p1 := set_zip (ds := es) (e := x) hl hu
  have hset : es.set j x = es := by
    apply List.ext_getElem?
    intro n
    rw [List.getElem?_set]
    by_cases q : j = n
    · subst q; rw [if_pos rfl, if_pos hj, hx]
    · rw [if_neg q]
  rw [hset] at p1
  exact ⟨_, hu, p1⟩
def gPopAt : D → List D → Option (D × D)
  | .lst true ds, [.int i] => if -(2 ^ 63) ≤ i ∧ i < 2 ^ 63 then match ixN ds.length i with
      | some j => match ds[j]? with
        | some x => some (x, .lst true (ds.eraseIdx j))
        | none => none
      | none => none
    else none
  | _, _ => none
theorem mb_popAt : MB X "list.pop" gPopAt := by
  intro Z Hb H P w vs t ds r t' hl s e Q q
  unfold gPopAt at e
  split at e
  · rename_i es i
    split at e
    · rename_i hz
      split at e
      · rename_i j hj
        split at e
        · rename_i x hx
          cases e
          match vs, hl with
          | [v], _ =>
            have s0 : Sp X.K X.mg Z Hb H ((v, .int i) :: (w, .lst true es) :: P) := s.perm (.swap _ _ _)
            have hv := s0.int
            subst hv
            have s1 := s0.drop
            obtain ⟨Y, F, rr⟩ := s1.head
            obtain ⟨a, rfl⟩ : ∃ a, w = .ref a := by cases rr; exact ⟨_, rfl⟩
            obtain ⟨ws, ha, hl, back⟩ := s1.mutL
            obtain ⟨y, hy, pm⟩ := zip_out hl hx
            refine wM_of mt_popAt ⟨a, ws, i, j, y, rfl, rfl, ha, hz.1, hz.2, by rw [hl]; exact (ixN_seq hj).1, hy, q _ _ ?_⟩
            have hj' := (List.getElem?_eq_some_iff.mp hx).1
            refine (back (ws.eraseIdx j) (es.eraseIdx j) ((y, r) :: P) (by rw [List.length_eraseIdx, List.length_eraseIdx, hl]) ?_).perm (.swap _ _ _)
            refine (pm.append_right P).trans ?_
            exact List.perm_middle.symm
        · cases e
      · cases e
    · cases e
  · cases e
def gSplit : D → List D → Option D
  | .str a, [.str b] => if (b.length == 0) = false ∧ a.length + 2 ≤ sizeLine then some (.lst true ((Txt.split a b).map .str)) else none
  | _, _ => none
theorem Sp.newStrs {K : PySem.W.Frag} {mg : Str → Option Value} {H Hb : Hp} {Z : Addr → Prop} {P : PL} {p : Addr} (s : Sp K mg Z Hb H P) (hp : H p = none) (ys : List Str) : Sp K mg Z Hb (upd H p (.lst (ys.map V.str))) ((.ref p, .lst true (ys.map D.str)) :: P) := by
  refine Sp.newL ?_ (by simp) hp
  induction ys with
  | nil => exact s
  | cons y ys ih => exact ih.put fun _ => .str
theorem bm_split : BM X "str.split" gSplit := by
  intro Z Hb H P w vs t ds r hl s e Q q
  unfold gSplit at e
  split at e
  · rename_i a b
    split at e
    · rename_i hz
      cases e
      match vs, hl with
      | [v], _ =>
        have s0 : Sp X.K X.mg Z Hb H ((w, .str a) :: (v, .str b) :: P) := s
        intro pins s' σ u us I r1 r2
        exact mt_split pins s' σ H w [v] u us Q I r1 r2 ⟨a, b, s0.str, by rw [s0.drop.str], hz.1, hz.2, fun p hp => q _ _ (s0.drop.drop.newStrs hp _)⟩
    · cases e
  · cases e
end
end DL
set_option Elab.async false
set_option linter.all false
set_option maxRecDepth 100000
set_option maxHeartbeats 4000001
namespace DL
open PySem.Spec PySem L2 PyProof.Rows
def pm {α : Type} (ord : List Nat) (l : List α) : List α := ord.filterMap fun j => l[j]?
/-- the def with its parameters in another order -/
def mPerm (ord inv : List Nat) (m : MF) : MF := fun ds => match m (pm ord ds) with
  | some (r, ds') => if ds'.length = ord.length then some (r, pm inv ds') else none
  | none => none
theorem AV.append {σ : L2.St} : ∀ {rs rs' : List AR} {vs vs' : List V} {T T' : PL}, AV σ rs vs T → AV σ rs' vs' T' → AV σ (rs ++ rs') (vs ++ vs') (T ++ T')
  | _, _, _, _, _, _, .nil, h => h
  | _, _, _, _, _, _, .v hv a, h => .v hv (a.append h)
  | _, _, _, _, _, _, .e a, h => .e (a.append h)
end DL
set_option Elab.async false
set_option linter.all false
set_option maxRecDepth 100000
set_option maxHeartbeats 4000001
namespace DL
open PySem.Spec PySem L2 PyProof.Rows
def keyPy : Key → PyData
  | .inl i => .int i
  | .inr x => .str x
mutual
def toPyR : D → Option PyData
  | .non => some .none
  | .bl b => some (.bool b)
  | .int i => some (.int i)
  | .str x => some (.str x)
  | .tup ds => (toPyRs ds).map .tuple
  | .lst _ ds => (toPyRs ds).map .list
  | .scr ds => (toPyRs ds).map .list
  | .dct _ ks vs => (toPyRs vs).map fun ps => .dict ((ks.map keyPy).zip ps)
  | _ => none
def toPyRs : List D → Option (List PyData)
  | [] => some []
  | d :: r => match toPyR d, toPyRs r with
    | some p, some q => some (p :: q)
    | _, _ => none
end
theorem toPyRs_len : ∀ {ds : List D} {ps : List PyData}, toPyRs ds = some ps → ps.length = ds.length
  | [], _, h => by cases h; rfl
  | d :: r, ps, h => by
    simp only [toPyRs] at h
    split at h
    · rename_i p q e1 e2
      cases h
      simp [toPyRs_len e2]
    · cases h
/-- the dict of modules is the written part's -/
def SysD (K : PySem.W.Frag) : Prop := ∃ o, K.lookup sysModules = some o ∧ o.cls = .type "dict"
section
variable {X : Cx} {pins : List (Addr × Obj)} {σ : L2.St} {H : Hp} {s : Shared} {Z : Addr → Prop}
theorem pairs_keys {P : Program} {w : World} : ∀ {es : List DictEntry} {kvs : List (Key × Value)}, Pairs (mixKind P w) es kvs → ReadsAll s.heap (es.map (·.key)) ((kvs.map (·.1)).map keyPy) [] ∧ es.map (·.val) = kvs.map (·.2)
  | _, _, .nil => ⟨.nil, rfl⟩
  | _, _, .cons (e := e) (kv := kv) hk hv t => by
    obtain ⟨r, q⟩ := pairs_keys t
    obtain ⟨k, x⟩ := kv
    have r1 : Reads s.heap e.key (keyPy k) [] := by
      rcases keyIs_shape (show keyIs k e.key = true from hk) with ⟨i, t, rfl, e1⟩ | ⟨x, t, rfl, e1⟩
      · rw [e1]; exact .int i t
      · rw [e1]; exact .str x t
    refine ⟨?_, ?_⟩
    · have := ReadsAll.cons r1 r
      exact this
    · have hv : e.val = x := hv
      simp only [List.map_cons, hv, q]
theorem kv_vals : ∀ {kvs : List (Key × V)} {vs : List (Key × Value)}, KV kvs vs → Vals (kvs.map (·.2)) (vs.map (·.2)) ∧ vs.map (·.1) = kvs.map (·.1)
  | _, _, .nil => ⟨.nil, rfl⟩
  | _, _, .cons h t => by
    obtain ⟨a, b⟩ := kv_vals t
    exact ⟨.cons h.2 a, by simp only [List.map_cons, b, h.1]⟩
theorem not_sys (I : Inv X pins σ H s) (hS : SysD X.K) {a : Addr} {o : Obj} (h : s.heap.get? a = some o) (hc : o.cls = .type "list") : a ≠ sysModules := fun e => by
  obtain ⟨o', h', hc'⟩ := hS
  have := I.kIn _ _ h'
  rw [← e, h] at this
  cases this
  rw [hc] at hc'
  simp at hc'
mutual
theorem Rep.reads (I : Inv X pins σ H s) (hS : SysD X.K) {v : V} {d : D} {F : List Addr} (r : Rep X.K X.mg H Z v d F) {p : PyData} (e : toPyR d = some p) {u : Value} (ru : RelV v u) : ∃ as, Reads s.heap u p as ∧ sysModules ∉ as := by
  cases r with
  | non => cases e; cases ru; exact ⟨_, .none, by simp⟩
  | bl => cases e; cases ru; exact ⟨_, .bool _, by simp⟩
  | int => cases e; obtain ⟨t, rfl⟩ := ru; exact ⟨_, .int _ t, by simp⟩
  | str => cases e; obtain ⟨t, rfl⟩ := ru; exact ⟨_, .str _ t, by simp⟩
  | tup h t =>
    simp only [toPyR, Option.map_eq_some_iff] at e
    obtain ⟨ps, e1, e2⟩ := e
    subst e2
    cases ru
    obtain ⟨its, rv, ⟨o, ho, hc, n, hd⟩, _⟩ := I.tuple h
    obtain ⟨as, q1, q2⟩ := t.readsA I hS e1 rv
    exact ⟨_, .tuple ho hc hd q1, q2⟩
  | scr h t =>
    simp only [toPyR, Option.map_eq_some_iff] at e
    obtain ⟨ps, e1, e2⟩ := e
    subst e2
    cases ru
    obtain ⟨its, rv, ⟨o, n, ho, hc, _, hd⟩, _⟩ := I.list h.sq
    obtain ⟨as, q1, q2⟩ := t.readsA I hS e1 rv
    exact ⟨_, .list ho hc hd q1, by simpa using ⟨(not_sys I hS ho hc).symm, q2⟩⟩
  | lstF h z t =>
    simp only [toPyR, Option.map_eq_some_iff] at e
    obtain ⟨ps, e1, e2⟩ := e
    subst e2
    cases ru
    obtain ⟨its, rv, ⟨o, n, ho, hc, _, hd⟩, _⟩ := I.list (.of h)
    obtain ⟨as, q1, q2⟩ := t.readsA I hS e1 rv
    exact ⟨_, .list ho hc hd q1, by simpa using ⟨(not_sys I hS ho hc).symm, q2⟩⟩
  | lstO h t =>
    simp only [toPyR, Option.map_eq_some_iff] at e
    obtain ⟨ps, e1, e2⟩ := e
    subst e2
    cases ru
    obtain ⟨its, rv, ⟨o, n, ho, hc, _, hd⟩, _⟩ := I.list (.of h)
    obtain ⟨as, q1, q2⟩ := t.readsA I hS e1 rv
    exact ⟨_, .list ho hc hd q1, by simpa using ⟨(not_sys I hS ho hc).symm, q2⟩⟩
  | dctF h z hk t =>
    simp only [toPyR, Option.map_eq_some_iff] at e
    obtain ⟨ps, e1, e2⟩ := e
    subst e2
    cases ru
    obtain ⟨_, hd, vs, kv, o, es, ep, ho, hx, hdt, _, pr, _⟩ := dk_rd I.hok h
    obtain ⟨k1, k2⟩ := pairs_keys (s := s) pr
    obtain ⟨v1, v2⟩ := kv_vals kv
    obtain ⟨as, q1, q2⟩ := t.readsA I hS e1 v1
    have lz : (vs.map (·.1)).length = ps.length := by rw [toPyRs_len e1, ← t.len, v2]; simp
    refine ⟨_, .dict (as := []) (bs := as) ho hx.1 hdt ?_ ?_, by simpa using ⟨(beq_eq_false_iff_ne.mp hd).symm, q2⟩⟩
    · rw [List.map_fst_zip (by rw [List.length_map, ← hk.1, ← v2, lz]; exact Nat.le_refl _), ← hk.1, ← v2]
      exact k1
    · rw [k2, List.map_snd_zip (by rw [List.length_map, ← hk.1, ← v2, lz]; exact Nat.le_refl _)]
      exact q1
  | dctO h hk t =>
    simp only [toPyR, Option.map_eq_some_iff] at e
    obtain ⟨ps, e1, e2⟩ := e
    subst e2
    cases ru
    obtain ⟨_, hd, vs, kv, o, es, ep, ho, hx, hdt, _, pr, _⟩ := dk_rd I.hok (.inl h)
    obtain ⟨k1, k2⟩ := pairs_keys (s := s) pr
    obtain ⟨v1, v2⟩ := kv_vals kv
    obtain ⟨as, q1, q2⟩ := t.readsA I hS e1 v1
    have lz : (vs.map (·.1)).length = ps.length := by rw [toPyRs_len e1, ← t.len, v2]; simp
    refine ⟨_, .dict (as := []) (bs := as) ho hx.1 hdt ?_ ?_, by simpa using ⟨(beq_eq_false_iff_ne.mp hd).symm, q2⟩⟩
    · rw [List.map_fst_zip (by rw [List.length_map, ← hk.1, ← v2, lz]; exact Nat.le_refl _), ← hk.1, ← v2]
      exact k1
    · rw [k2, List.map_snd_zip (by rw [List.length_map, ← hk.1, ← v2, lz]; exact Nat.le_refl _)]
      exact q1
  | ty => cases e
  | glo _ => cases e
  | objF _ _ _ _ _ _ => cases e
  | exc _ _ _ _ _ _ => cases e
  | hole => cases e
  | tab _ _ _ _ _ => cases e
  | objO _ _ _ _ _ => cases e
  | rawF _ _ _ _ => cases e
  | rawO _ _ _ => cases e
theorem Reps.readsA (I : Inv X pins σ H s) (hS : SysD X.K) {vs : List V} {ds : List D} {F : List Addr} (r : Reps X.K X.mg H Z vs ds F) {ps : List PyData} (e : toPyRs ds = some ps) {us : List Value} (ru : Vals vs us) : ∃ as, ReadsAll s.heap us ps as ∧ sysModules ∉ as := by
  cases r with
  | nil => cases e; cases ru; exact ⟨_, .nil, by simp⟩
  | cons q t =>
    simp only [toPyRs] at e
    split at e
    · rename_i p ps' e1 e2
      cases e
      cases ru with
      | cons r1 r2 =>
        obtain ⟨as, a1, a2⟩ := q.reads I hS e1 r1
        obtain ⟨bs, b1, b2⟩ := t.readsA I hS e2 r2
        exact ⟨_, .cons a1 b1, by simpa using ⟨a2, b2⟩⟩
    · cases e
end
end
def reprD (d : D) : Option Str := match toPyR d with
  | some p => if p.showable = true ∧ p.depth ≤ 64 ∧ p.shown.length ≤ sizeLine then some p.shown else none
  | none => none
def dRepr : List D → Option D
  | [d] => (reprD d).map .str
  | _ => none
theorem bc_repr {X : Cx} (hS : SysD X.K) (hg : X.A.guards = some []) (hu : X.A.units + 65 < cLine) : BC X (.builtin "repr") dRepr := by
  intro Z Hb H P vs ds r hl s e Q q
  unfold dRepr at e
  split at e
  · rename_i d
    obtain ⟨z, e1, rfl⟩ := Option.map_eq_some_iff.mp e
    unfold reprD at e1
    split at e1
    · rename_i p e2
      split at e1
      · rename_i hz
        cases e1
        obtain ⟨h1, h2, h3⟩ := hz
        match vs, hl with
        | [v], _ =>
          have s0 : Sp X.K X.mg Z Hb H ((v, d) :: P) := s
          have fin := q (.str p.shown) H (s0.drop.put fun _ => .str)
          intro pins s' σ us I rv
          obtain ⟨u, rfl, ru⟩ := vals1 rv
          obtain ⟨Y, F, rr⟩ := s0.head
          obtain ⟨as, a1, a2⟩ := rr.reads I hS e2 ru
          cases a1 with
          | none => exact PySem.P.repr_of_none ⟨.str _, H, I.tok _, ⟨_, rfl⟩, fin⟩
          | bool b => exact PySem.P.repr_of_bool ⟨.str _, H, I.tok _, ⟨_, rfl⟩, fin⟩
          | int i t => exact PySem.P.repr_of_int (by simpa [PyData.showable] using h1) ⟨.str _, H, I.tok _, ⟨_, rfl⟩, fin⟩
          | str x t => exact PySem.P.repr_of_str ⟨.str _, H, I.tok _, ⟨_, rfl⟩, fin⟩ h3
          | list b1 b2 b3 b4 => exact PySem.repr_of_reads' (Reads.list b1 b2 b3 b4) h1 (fun _ => a2) hg (by omega) (fun _ _ h => h) (fun h' u tk hk => ⟨.str _, H, I.kept (t' := tk) hk, ⟨_, rfl⟩, fin⟩) h3
          | tuple b1 b2 b3 b4 => exact PySem.repr_of_reads' (Reads.tuple b1 b2 b3 b4) h1 (fun _ => a2) hg (by omega) (fun _ _ h => h) (fun h' u tk hk => ⟨.str _, H, I.kept (t' := tk) hk, ⟨_, rfl⟩, fin⟩) h3
          | dict b1 b2 b3 b4 b5 => exact PySem.repr_of_reads' (Reads.dict b1 b2 b3 b4 b5) h1 (fun _ => a2) hg (by omega) (fun _ _ h => h) (fun h' u tk hk => ⟨.str _, H, I.kept (t' := tk) hk, ⟨_, rfl⟩, fin⟩) h3
      · cases e1
    · cases e1
  · cases e
end DL
set_option Elab.async false
set_option linter.all false
set_option maxRecDepth 100000
set_option maxHeartbeats 4000001
namespace DL
open PySem.Spec PySem L2 PyProof.Rows
def sysB (K : PySem.W.Frag) : Bool := match K.lookup sysModules with
  | some o => decide (o.cls = .type "dict")
  | none => false
theorem sysB_ok {K : PySem.W.Frag} (h : sysB K = true) : SysD K := by
  unfold sysB at h
  split at h
  · rename_i o e
    exact ⟨o, e, of_decide_eq_true h⟩
  · cases h
def fragS (n : Nat) (g : Addr → Option Obj) : PySem.W.Frag := He.frG g (sysModules :: cStatics :: He.asD g n)
abbrev AlS : Type := Bool × He.AlD
def obsS (n : Nat) (fa : List He.Fa) (fn : List He.DefD) (ex : PySem.W.Frag → Bool) (g : Addr → Option Obj) : AlS := (sysB (fragS n g) && ex (fragS n g), He.obsD fa fn (fragS n g))
structure SaysS (fa : List He.Fa) (fn : List He.DefD) (ex : PySem.W.Frag → Bool) (K : PySem.W.Frag) : Prop where
  sys : SysD K
  ext : ex K = true
  old : He.SaysD fa fn K
def hookS (n : Nat) (fa : List He.Fa) (fn : List He.DefD) (ex : PySem.W.Frag → Bool) : PySem.W.Hook where
  α := AlS
  obs := fun s => obsS n fa fn ex s.heap.get?
  val := fun _ => (true, He.valD fn)
  says := fun _ h => ∃ K : PySem.W.Frag, K.In h ∧ SaysS fa fn ex K
  of := fun _ _ e => by
    have e1 := congrArg (fun z : AlS => z.1) e
    have e2 := congrArg (fun z : AlS => z.2) e
    obtain ⟨h1, h2⟩ := He.ba e1
    exact ⟨_, He.frG_in, ⟨sysB_ok h1, h2, e2⟩⟩
  keeps := fun _ _ _ ⟨K, hin, c⟩ k => ⟨K, PySem.W.Frag.In.keeps hin k, c⟩
theorem obsS_eq {n : Nat} {fa : List He.Fa} {fn : List He.DefD} {ex : PySem.W.Frag → Bool} {g : Addr → Option Obj} {s : Shared} (h : ∀ a, g a = s.heap.get? a) : obsS n fa fn ex g = (hookS n fa fn ex).obs s := by
  (have e : g = s.heap.get? := funext h)
  rw [e] <;> rfl
theorem endG {P : Program} {w : World} {K : PySem.W.Frag} {mg mb : Str → Option Value} {k : Nat} {lf at_ : Addr} {fd : FuncData} {px : Str} {sp : L2.Sp} {sh : Shared} {its : List Value} {nums : List Int}
    (inK : K.In sh.heap) (nsM : sh.heap.Ns mainGlobals mg) (nsB : sh.heap.Ns builtinsNs mb) (bootB : ∀ x : Str, x ≠ "__name__" → mb x = bootBuiltins x) (noLim : sh.heap.NoLimit) (noGen : sh.gens = #[])
    (hAt : sh.heap.get? at_ = some { cls := .type "list", data := .seq its.toArray }) (hInts : IntsAre its nums) (hSize : nums.length ≤ sizeLine) (room : Room k callerA)
    (prom : ∀ base : Heap, K.In base → base.Ns mainGlobals mg → FnG P w K mg base k lf fd [px] sp) (bnd : ∀ (s : Shared) (u : Value), BindsTo s fd ⟨[u], []⟩ [(px, u)])
    (post : ∀ H : Hp, Only H → ScrAt K H at_ (nums.map V.int) → sp [.ref at_] H (fun v _ => v = .bl true) E0) :
    codeAny (model P w) callerA (.call (.ref lf) ⟨[.ref at_], []⟩) (fun r s' => r = .ok (.ret (.bool true)) ∧ OldK sh.heap s'.heap ∧ s'.os = sh.os ∧ AllBare s'.gens) sh := by
  have relI := vals_ints hInts
  have lenI := hInts.length
  have main : ∀ H : Hp, Only H → ScrAt K H at_ (nums.map V.int) → HOk P w H sh.heap → (∀ b, H b ≠ none → b = at_) → (H at_ ≠ none → K.lookup at_ = none) →
      codeAny (model P w) callerA (.call (.ref lf) ⟨[.ref at_], []⟩) (fun r s' => r = .ok (.ret (.bool true)) ∧ OldK sh.heap s'.heap ∧ s'.os = sh.os ∧ AllBare s'.gens) sh := by
    intro H only scr hok onlyA freeK
    have hid : ∀ {b : Addr} {o : Obj}, sh.heap.get? b = some o → H b = none → (hidT sh.heap H).get? b = some o := fun e n => hidT_get e n
    have notD : ∀ {b : Addr} {o : Obj} {es : Array DictEntry} {ep : Nat}, sh.heap.get? b = some o → o.data = .dict es ep → H b = none := fun {b o es ep} e d => by
      cases q : H b with
      | none => rfl
      | some u =>
        have eb : b = at_ := onlyA b (by rw [q]; simp)
        subst eb
        rw [hAt] at e
        cases e
        have d2 : Data.seq its.toArray _ = Data.dict es ep := d
        cases d2
    have keepNs : ∀ {b : Addr} {m : Str → Option Value}, sh.heap.Ns b m → (hidT sh.heap H).Ns b m := fun {b m} ⟨o, es, ep, e, d, r⟩ => ⟨o, es, ep, hid e (notD e d), d, r⟩
    have inB : K.In (hidT sh.heap H) := fun b o e => hid (inK b o e) (by
      cases q : H b with
      | none => rfl
      | some u =>
        have eb : b = at_ := onlyA b (by rw [q]; simp)
        subst eb
        have z := freeK (by rw [q]; simp)
        rw [z] at e
        cases e)
    have modB : Mod K mg (hidT sh.heap H) := ⟨inB, keepNs nsM, ⟨mb, keepNs nsB, bootB⟩, let ⟨mc, z1, z2⟩ := noLim; ⟨mc, keepNs z1, z2⟩⟩
    have env : Env0 P w K mg (hidT sh.heap H) callerA [] sh H := ⟨rfl, modB, fun b o e => of_hidT e, Nat.le_of_eq (hidT_size _ _), trivial, fun b hb => absurd (show b ∈ ([] : List Addr) from hb) (by simp), hok, .of_eq noGen⟩
    refine codeAny_mono ((prom _ inB (keepNs nsM)).run callerA [] sh H ⟨[.ref at_], []⟩ [.ref at_] [.ref at_] _ _ room rfl env (bnd sh (.ref at_)) (.cons rfl .nil) (post H only scr)) fun r s' out => ?_
    cases r with
    | error e => exact False.elim out
    | ok fl =>
      cases fl with
      | next => exact False.elim out
      | brk => exact False.elim out
      | cont => exact False.elim out
      | ret u =>
        obtain ⟨v, H2, os, bare, un, hok2, rv, q⟩ := out
        have q2 : v = .bl true := q
        subst q2
        obtain rfl : u = Value.bool true := rv
        (refine ⟨rfl, OldK.of_keep fun b o e => ?_, os, bare⟩)
        cases q : H b with
        | none => exact un.keep b o e q (by intro zz; exact absurd (show b ∈ ([] : List Addr) from zz) (by simp)) (by simp)
        | some u =>
          rcases only b with z | ⟨ob, xs, z⟩
          · rw [q] at z
            cases z
          · have z2 := un.frzs b ob _ z
            obtain ⟨e1, _⟩ := hok b _ z
            obtain ⟨e2, _⟩ := hok2 b _ z2
            rw [e] at e1
            cases e1
            exact e2
  cases inW : K.lookup at_ with
  | some o =>
    have e := inK at_ o inW
    rw [hAt] at e
    cases e
    refine main (fun _ => none) (fun _ => .inl rfl) (.inr ⟨_, its.toArray, _, inW, rfl, rfl, rfl, by rw [List.size_toArray, lenI]; exact hSize, by simpa using relI⟩) (fun b u z => ?_) (fun b z => absurd rfl z) fun z => absurd rfl z
    have z2 : (none : Option HO) = some u := z
    cases z2
  | none =>
    refine main (fun b => if b = at_ then some (.frz { cls := .type "list", data := .seq its.toArray } (.lst (nums.map V.int))) else none) (fun b => ?_) (.inl ⟨{ cls := .type "list", data := .seq its.toArray }, if_pos rfl⟩) (fun b u z => ?_) (fun b z => ?_) fun _ => inW
    · by_cases hb : b = at_
      · (exact .inr ⟨_, _, if_pos hb⟩)
      · exact .inl (if_neg hb)
    · by_cases hb : b = at_
      · have z2 := (if_pos hb).symm.trans z
        cases z2
        subst hb
        exact ⟨hAt, by rw [List.length_map]; exact hSize, its, _, relI, hAt⟩
      · have z2 := (if_neg hb).symm.trans z
        cases z2
    · by_cases hb : b = at_
      · exact hb
      · exact absurd (if_neg hb) z
theorem ints_reps {K : PySem.W.Frag} {mg : Str → Option Value} {H : Hp} {Z : Addr → Prop} : ∀ nums : List Int, Reps K mg H Z (nums.map V.int) (nums.map D.int) []
  | [] => .nil
  | i :: r => .cons (F := []) .int (ints_reps r)
/-- the law by its mirror: m is what it reckons of the script -/
theorem walk_ofG {l : PySem.W.OpenLaw} {n k : Nat} {q : Program} {loose : List Str} {XP : (Str → Option Value) → Heap → Prop} {YP : World → Heap → Prop} {d : DefRec} {px : Str} {m : MF}
    (hn : l.most = some n) (hn2 : n ≤ sizeLine) (hdf : d.params.defaults = []) (room : Room k callerA)
    (law : ∀ nums : List Int, nums.length ≤ n → ∃ ds', m [.scr (nums.map D.int)] = some (.bl true, ds'))
    (prom : ∀ (w : World) (mg : Str → Option Value) (lf : Addr) (h : Heap), YP w h → h.Ns mainGlobals mg → mg d.name = some (.ref lf) →
      ∃ (K : PySem.W.Frag) (fd : FuncData), K.In h ∧ (∀ (s : Shared) (u : Value), BindsTo s fd ⟨[u], []⟩ [(px, u)]) ∧
        ∀ base : Heap, K.In base → base.Ns mainGlobals mg → FnG l.prog w K mg base k lf fd [px] (spD K mg 1 m)) : PySem.W.WalkO q loose XP YP l.row.toRowW d [] (fun f vs => PySem.call f vs) := by
  refine Att.attach_call hn hdf fun w s₀ s₁ mg mb lf o pmv cd doc at_ its nums G Y ho hd hcd hmg hobj hints hlen hg => ?_
  obtain ⟨K, fd, inK, hb, hF⟩ := prom w mg lf _ Y G.T.g hmg
  refine endG inK G.T.g G.T.b G.T.builtins G.T.nolimit hg hobj hints (Nat.le_trans hlen hn2) room hF hb fun H only scr => ?_
  obtain ⟨ds', em⟩ := law nums hlen
  refine ⟨rfl, fun _ => True, H, [.scr (nums.map D.int)], .bl true, ds', rfl, ?_, em, fun v H' s' => ?_⟩
  · refine ⟨⟨[], ?_, List.nodup_nil, fun a m => by cases m⟩, fun _ _ e => e, fun _ _ => trivial⟩
    exact .cons (F := []) (.scr scr (ints_reps nums)) .nil
  · exact s'.bl
end DL
set_option Elab.async false
set_option linter.all false
set_option maxRecDepth 100000
set_option maxHeartbeats 4000001
namespace DL
open PySem.Spec PySem L2 PyProof.Rows
def iAny (m : ME) : MI := fun δ => match iLst m δ with
  | some r => some r
  | none => match iTup m δ with
    | some r => some r
    | none => iTxt m δ
theorem Room.u65 {k : Nat} {A : Around} (r : Room k A) : A.units + 65 < cLine := by have := r.un; omega
/-- a def that is called: its name, its parameters, what it reckons; dd its defaults -/
structure CalF (P : Program) (w : World) (K : PySem.W.Frag) (mg : Str → Option Value) (base : Heap) (k : Nat) (x : Str) (ps : List Str) (dd : List D) (m : MF) : Prop where
  ex : ∃ (f : Addr) (fd : FuncData) (dvs : List V) (dsv : List Value), FnG P w K mg base k f fd ps (spD K mg ps.length m) ∧ mg x = some (.ref f) ∧ PySem.W.keepIn K (.ref f) = true ∧ Binds K fd ps dsv ∧ Vals dvs dsv ∧ ∀ H Y, Reps K mg H Y dvs dd []
/-- a constant of the module -/
def GlD (K : PySem.W.Frag) (mg : Str → Option Value) (x : Str) (d : D) : Prop := ∃ (u : Value) (v : V), mg x = some u ∧ RelV v u ∧ ∀ H Y, Rep K mg H Y v d []
section
variable {X : Cx} {x : Str} {p pos : Pos} {e : Expr} {es : List Expr} {as bs : List AS} {k : Nat} {ps ks : List Str} {m : MF} {ord inv : List Nat} {kws : List Keyword} {dd : List D}
theorem ii_any {tg iter : Expr} {mi : ME} (h : IG X iter mi) : II X tg iter (iAny mi) := by
  intro Z Hb H σ δ L ds δ' s e R q
  unfold iAny at e
  split at e
  · rename_i r e1
    cases e
    exact ii_lst h s e1 R q
  · split at e
    · rename_i r e1
      cases e
      exact ii_tup h s e1 R q
    · exact ii_txt h s e R q
theorem x_var (i : Nat) (hN : X.N[i]? = some x := by rfl) (hv : Vis X.env.scope x := by first | exact Or.inl rfl | exact Or.inr (Or.inl rfl) | exact Or.inr (Or.inr rfl)) (hd : (x == ("__debug__" : Str)) = false := by decide)
    (hcd : (x == ("__classdict__" : Str)) = false := by decide) : IG X (.Name x pos) (mVar i) := ig_var i (pe_var hN hv hd hcd)
theorem x_mv (i : Nat) (hN : X.N[i]? = some x := by rfl) (hv : Vis X.env.scope x := by first | exact Or.inl rfl | exact Or.inr (Or.inl rfl) | exact Or.inr (Or.inr rfl)) (hd : (x == ("__debug__" : Str)) = false := by decide)
    (hcd : (x == ("__classdict__" : Str)) = false := by decide) : IG X (.Name x pos) (mMv i) := ig_mv i (pe_var hN hv hd hcd)
theorem x_gl {d : D} (g : GlD X.K X.mg x d) (hg : Gl X x := by rfl) (hdb : (x == ("__debug__" : Str)) = false := by decide) : IG X (.Name x pos) (mC d) := by
  obtain ⟨u, v, h1, h2, h3⟩ := g
  exact ig_glob hg h1 h2 h3 hdb
theorem x_blt {g : List D → Option D} {id : String} {r : ML} (hb : BC X (.builtin id) g) (hm : X.mg x = none) (hv : bootBuiltins x = some (.builtin id)) (ha : IL X (e :: es) r) (hg : Gl X x := by rfl) (hn : x ≠ "__name__" := by decide) (hdb : (x == ("__debug__" : Str)) = false := by decide)
    (he : starEach (e :: es) X.env = (false, eval e X.env) :: starEach es X.env := by rfl) (hpl : (backTo pos (starEach es X.env)).any (·.1) = false := by rfl) : IG X (.Call (.Name x p) (e :: es) [] pos) (mCallB g r) := ig_callB hb hg hm hv ha hn hdb he hpl
theorem x_bty {g : List D → Option D} {id : String} {r : ML} (hb : BC X (.type id) g) (hm : X.mg x = none) (hv : bootBuiltins x = some (.type id)) (ha : IL X (e :: es) r) (hg : Gl X x := by rfl) (hn : x ≠ "__name__" := by decide) (hdb : (x == ("__debug__" : Str)) = false := by decide)
    (he : starEach (e :: es) X.env = (false, eval e X.env) :: starEach es X.env := by rfl) (hpl : (backTo pos (starEach es X.env)).any (·.1) = false := by rfl) : IG X (.Call (.Name x p) (e :: es) [] pos) (mCallB g r) := ig_callTy hb hg hm hv ha hn hdb he hpl
theorem x_call (c : CalF X.prog X.w X.K X.mg X.base k x ps dd m) (hr : Room k X.A) (hg : X.A.guards = some []) (ha : IA X (e :: es) as) (hn : as.length + dd.length = ps.length := by rfl) (hgl : Gl X x := by rfl) (hdb : (x == ("__debug__" : Str)) = false := by decide)
    (he : starEach (e :: es) X.env = (false, eval e X.env) :: starEach es X.env := by rfl) (hpl : (backTo pos (starEach es X.env)).any (·.1) = false := by rfl) : IG X (.Call (.Name x p) (e :: es) [] pos) (mCall m as dd) := by
  obtain ⟨f, fd, dvs, dsv, F, hm, hk, hb, hd, hdd⟩ := c.ex
  exact ig_call dd F hr hg hgl hm hk hb hd hdd ha hn hdb he hpl
theorem x_call0 (c : CalF X.prog X.w X.K X.mg X.base k x ps dd m) (hr : Room k X.A) (hg : X.A.guards = some []) (hn : dd.length = ps.length := by rfl) (hgl : Gl X x := by rfl) (hdb : (x == ("__debug__" : Str)) = false := by decide) : IG X (.Call (.Name x p) [] [] pos) (mCall m [] dd) := by
  obtain ⟨f, fd, dvs, dsv, F, hm, hk, hb, hd, hdd⟩ := c.ex
  exact ig_call0 dd F hr hg hgl hm hk hb hd hdd hn hdb
theorem x_a0 : IA X [] [] := ia_nil
theorem x_av (i : Nat) (t : IA X es as) (hN : X.N[i]? = some x := by rfl) (hv : Vis X.env.scope x := by first | exact Or.inl rfl | exact Or.inr (Or.inl rfl) | exact Or.inr (Or.inr rfl)) (hd : (x == ("__debug__" : Str)) = false := by decide)
    (hcd : (x == ("__classdict__" : Str)) = false := by decide) (hs : starEach (.Name x p :: es) X.env = (false, eval (.Name x p) X.env) :: starEach es X.env := by rfl) : IA X (.Name x p :: es) (.v i :: as) := ia_v i (pe_var hN hv hd hcd) t hs
theorem x_ae {me : ME} (h : IG X e me) (t : IA X es as) (hs : starEach (e :: es) X.env = (false, eval e X.env) :: starEach es X.env := by rfl) : IA X (e :: es) (.e me :: as) := ia_e h t hs
theorem x_lc {me : ME} {r : ML} (h : IG X e me) (t : IL X es r) (hs : starEach (e :: es) X.env = (false, eval e X.env) :: starEach es X.env := by rfl) : IL X (e :: es) (mCons me r) := il_cons h t hs
theorem x_pv (i : Nat) (hN : X.N[i]? = some x := by rfl) (hv : Vis X.env.scope x := by first | exact Or.inl rfl | exact Or.inr (Or.inl rfl) | exact Or.inr (Or.inr rfl)) (hd : (x == ("__debug__" : Str)) = false := by decide)
    (hcd : (x == ("__classdict__" : Str)) = false := by decide) : IP X (.Name x pos) i pVar := ip_var i (pe_var hN hv hd hcd)
theorem x_psub {b : Expr} {i : Nat} {mp : MP} {mk : MK} (hu : X.A.units + 65 < cLine) (h : IP X e i mp) (hk : IK X b mk) (hs : PlainIx b := by intro _ _; rfl) : IP X (.Subscript e b pos) i (pSub mp mk) := ip_sub hu h hk hs
theorem x_ix {a b : Expr} {ma mb : ME} (hu : X.A.units + 65 < cLine) (ha : IG X a ma) (hb : IG X b mb) (hs : PlainIx b := by intro _ _; rfl) : IG X (.Subscript a b pos) (mBin dIx ma mb) := ig_ix hu ha hb hs
theorem x_cmp {a b : Expr} {ma mb : ME} {op : CmpOp} {g : D → D → Option D} (ho : BR X (compareOp op) g) (ha : IG X a ma) (hb : IG X b mb) (hm : behindInMarks op b = false := by first | exact nobehind _ (by decide) (by decide) | rfl) : IG X (.Compare a [op] [b] pos) (mBin g ma mb) := ig_cmp ho ha hb hm
theorem x_tcmp {a b : Expr} {ma mb : ME} {op : CmpOp} {g : D → D → Option D} (ho : BR X (compareOp op) g) (ha : IG X a ma) (hb : IG X b mb) (hm : behindInMarks op b = false := by first | exact nobehind _ (by decide) (by decide) | rfl) : IT X (.Compare a [op] [b] pos) (toT (mBin g ma mb)) := it_cmp ho ha hb hm
theorem x_val {a : Expr} {ma : ME} (ha : IG X a ma) (he : ∀ whole, isTrue a X.env whole = (do let v ← whole; standAt a.pos; holding [v] (truthy v)) := by intro _; rfl) : IT X a (mTru ma) := it_val ha he
variable {P : Nat → Bool}
theorem x_set {pos' : Pos} {me : ME} (i : Nat) (nd : X.N.Nodup) (h : IG X e me) (hP : P i = false := by rfl) (hi : X.N[i]? = some x := by rfl) (hx : Loc X.env.scope x := by first | exact Or.inl rfl | exact Or.inr rfl) (hs : swapsWith e (some (.Name x pos')) pos.line X.env = pure false := by rfl) (hf : X.fn x = true ∨ X.env.scope.names.lookup x = some .local := by first | exact .inl rfl | exact .inr rfl) :
    IS X P (.Assign [.Name x pos'] e pos) (sSet i me) := is_set i hP nd hi hx h hs hf
theorem x_put {o b : Expr} {i : Nat} {mp : MP} {mk : MK} {me : ME} {pos' : Pos} (hu : X.A.units + 65 < cLine) (he : IG X e me) (ho : IP X o i mp) (hk : IK X b mk)
    (ha : ∀ v, assign (.Subscript o b pos') X.env v = (do
      let ov ← (holding [v] (eval o X.env))
      let iv ← holding [v, ov] (eval b X.env)
      standAt pos'
      (holding [v, ov, iv] (setItem ov iv v))
      release [v, ov, iv] []) := by intro _; rfl)
    (hs : swapsWithSole [.Subscript o b pos'] e pos.line X.env = pure false := by rfl) (hw : swappedStores [.Subscript o b pos'] e X.env = pure none := by rfl)
    (h1 : (assignEach [.Subscript o b pos'] X.env).map (·.2) = [assign (.Subscript o b pos') X.env] := by rfl) : IS X P (.Assign [.Subscript o b pos'] e pos) (sPut i mp mk me) := is_put hu he ho hk ha hs hw h1
theorem x_for {tg iter : Expr} {body : List Stmt} {mi : MI} {t : MG} {b : MS} {is : List Nat} (hpo : PassesOwn (model X.prog X.w) X.A X.env X.xe) (hi : II X tg iter mi) (ht : IGt X is tg t) (hb : ISs X P body b) (hc : X.calm = true := by rfl) (hP : ∀ i ∈ is, P i = false := by decide) (hs : ∀ x, foldedSetIterable iter X.env x = pure x := by intro _; rfl) :
    IS X P (.For tg iter body [] pos) (sFor mi t b) := is_for hpo hc hi ht hb hP hs
theorem x_tg (i : Nat) (nd : X.N.Nodup) (hi : X.N[i]? = some x := by rfl) (hx : Loc X.env.scope x := by first | exact Or.inl rfl | exact Or.inr rfl) (hf : X.fn x = true ∨ X.env.scope.names.lookup x = some .local := by first | exact .inl rfl | exact .inr rfl) : IGt X [i] (.Name x pos) (tName i) := it_name i (pg_name nd hi hx hf)
theorem x_rng1 {a : Expr} {r : ML} {tg : Expr} (hm : X.mg "range" = none) (ha : IL X [a] r) (hg : Gl X "range" := by rfl) (hs : starEach [a] X.env = [(false, eval a X.env)] := by rfl) : II X tg (.Call (.Name "range" p) [a] [] pos) (mRng1 r) := ii_rng1 hg hm ha hs
theorem x_lcomp {elt tg iter : Expr} {ifs : List Expr} {scope : Scope} {own : List (Str × Nat)} {mi : MI} {t : MG} {c : MT} {me : ME} {is : List Nat} (nd : X.N.Nodup) (hi : II X tg iter mi) (ok : BlkOk X.N X.env.scope scope own) (ht : ∀ s H C cl fp, IGt (bX X scope s H C cl fp) is tg t) (hc : ∀ s H C cl fp, ITs (bX X scope s H C cl fp) ifs c) (he : ∀ s H C cl fp, IG (bX X scope s H C cl fp) elt me)
    (hcl : X.calm = true := by rfl) (hsub : ∀ i ∈ is, i ∈ own.map (·.2) := by decide) (hs : ∀ x, foldedSetIterable iter X.env x = pure x := by intro _; rfl) : IG X (.ListComp elt [⟨tg, iter, ifs, 0⟩] scope pos) (mLc mi (own.map (·.2)) t c me) := ig_lc hcl nd hi ok ht hc he hsub hs
def kC (d : D) : MK := fun _ => some d
theorem ik_str {i j pos} : IK X (.Constant (.str i) j pos) (kC (.str i)) := by
  intro Z Hb H σ δ L d s e' Q q
  cases e'
  exact wE_of pe_str (q _ _ (fun _ _ h => h) (s.put fun _ => .str))
theorem ik_int {i j pos} : IK X (.Constant (.int i) j pos) (kC (.int i)) := by
  intro Z Hb H σ δ L d s e' Q q
  cases e'
  exact wE_of pe_int (q _ _ (fun _ _ h => h) (s.put fun _ => .int))
theorem lt64 {a c : Nat} (h : a + 65 < c) : a + 64 < c := by omega
variable {o : Expr} {name : Str} {apos cpos : Pos} {T id : String} {g : D → List D → Option (D × D)} {g' : D → List D → Option D} {i : Nat} {mp : MP} {r : ML} {rk : MKs} {a : ME}
theorem x_methP (pa : PlainAttrs T) (slot : Slot T name id) (hty : typeOf (.builtin id) = pure (.type "method_descriptor")) (hg : MB X id g) (ho : IP X o i mp) (ha : IKs X (e :: es) rk) (hbase : attributeBase o name X.env (eval o X.env) = eval o X.env := by rfl) (hfew : ((backTo cpos (starEach (e :: es) X.env)).all (fun x => !x.1) && (backToKw cpos (keywordEach [] X.env)).all (fun x => x.1.isSome) && decide ((e :: es).length + ([] : List Keyword).length + (if ([] : List Keyword).isEmpty then 0 else 1) < 30)) = true := by rfl) (hline : (apos.endLine == cpos.line) = true := by rfl) (hs : starEach (e :: es) X.env = (false, eval e X.env) :: starEach es X.env := by rfl) (hplain : (backTo cpos (starEach es X.env)).any (·.1) = false := by rfl) :
    IG X (.Call (.Attribute o name apos) (e :: es) [] cpos) (mMethP T g i mp rk) := ig_methP pa slot hty hg ho ha hbase hfew hline hs hplain
theorem x_methV (pa : PlainAttrs T) (slot : Slot T name id) (hty : typeOf (.builtin id) = pure (.type "method_descriptor")) (hg : BM X id g') (ho : IG X o a) (ha : IL X (e :: es) r) (hbase : attributeBase o name X.env (eval o X.env) = eval o X.env := by rfl) (hfew : ((backTo cpos (starEach (e :: es) X.env)).all (fun x => !x.1) && (backToKw cpos (keywordEach [] X.env)).all (fun x => x.1.isSome) && decide ((e :: es).length + ([] : List Keyword).length + (if ([] : List Keyword).isEmpty then 0 else 1) < 30)) = true := by rfl) (hline : (apos.endLine == cpos.line) = true := by rfl) (hs : starEach (e :: es) X.env = (false, eval e X.env) :: starEach es X.env := by rfl) (hplain : (backTo cpos (starEach es X.env)).any (·.1) = false := by rfl) :
    IG X (.Call (.Attribute o name apos) (e :: es) [] cpos) (mMethV T g' a r) := ig_methV pa slot hty hg ho ha hbase hfew hline hs hplain
end
section
variable {P : Program} {w : World} {K : PySem.W.Frag} {mg : Str → Option Value} {base : Heap} {k : Nat} {x y qual : Str} {params : Arguments} {body : List Stmt} {scope : Scope} {kws : List (Str × V)} {f : Addr} {fd : FuncData} {ps ks : List Str} {m : MF} {ord : List Nat} {n : Nat}
theorem calF_of (F : FunD K x qual params body scope [] kws f fd) (G : FnG P w K mg base k f fd ps (spD K mg ps.length m)) (gm : mg y = some (.ref f))
    (h : ∀ (kV doc pm : Value) (an : Option Addr) (cdv ct : Value) (us : List Value), us.length = ps.length → bindArgs (PySem.W.fnOf x qual params body scope .none kV doc pm an cdv ct) ⟨us, []⟩ = pure (ps.zip us)) : CalF P w K mg base k y ps [] m :=
  ⟨f, fd, [], [], G, gm, F.kp, F.bindsN h, .nil, fun _ _ => .nil⟩
end
end DL
set_option Elab.async false
set_option linter.all false
set_option maxRecDepth 100000
set_option maxHeartbeats 4000001
namespace DL
open PySem.Spec PySem L2 PyProof.Rows
theorem loopF_ind {t : MG} {b : MS} {J : List D → Env → Prop} (step : ∀ d r δ, J (d :: r) δ → ∃ δ1 δ2, t d δ = some δ1 ∧ b δ1 = some (.nx δ2) ∧ J r δ2) : ∀ ds δ, J ds δ → ∃ δ', loopF t b ds δ = some (.nx δ') ∧ J [] δ'
  | [], δ, h => ⟨δ, rfl, h⟩
  | d :: r, δ, h => by
    obtain ⟨δ1, δ2, e1, e2, h2⟩ := step d r δ h
    obtain ⟨δ', e3, h3⟩ := loopF_ind step r δ2 h2
    exact ⟨δ', by simp only [loopF, e1, e2, e3], h3⟩
theorem loopC_ind {own : List Nat} {t : MG} {c : MT} {m : ME} {J : List D → Env → List D → Prop} (step : ∀ d r δ acc, J (d :: r) δ acc → ∃ δ1 δ2, t d δ = some δ1 ∧ ((c δ1 = some (false, δ2) ∧ J r (wipeE δ2 own) acc) ∨ (c δ1 = some (true, δ2) ∧ ∃ x δ3, m δ2 = some (x, δ3) ∧ J r (wipeE δ3 own) (acc ++ [x])))) :
    ∀ ds δ acc, J ds δ acc → ∃ δ' acc', loopC own t c m ds δ acc = some (acc', δ') ∧ J [] δ' acc'
  | [], δ, acc, h => ⟨δ, acc, rfl, h⟩
  | d :: r, δ, acc, h => by
    obtain ⟨δ1, δ2, e1, h1⟩ := step d r δ acc h
    rcases h1 with ⟨e2, h2⟩ | ⟨e2, x, δ3, e3, h2⟩
    · obtain ⟨δ', acc', e4, h3⟩ := loopC_ind step r _ _ h2
      exact ⟨δ', acc', by simp only [loopC, e1, e2, e4], h3⟩
    · obtain ⟨δ', acc', e4, h3⟩ := loopC_ind step r _ _ h2
      exact ⟨δ', acc', by simp only [loopC, e1, e2, e3, e4], h3⟩
theorem fzs_ints : ∀ C : List Int, fzs (C.map D.int) = C.map D.int
  | [] => rfl
  | c :: r => by simp only [List.map_cons, fzs, fz, fzs_ints r]
theorem isFzs_ints : ∀ C : List Int, isFzs (C.map D.int) = true
  | [] => rfl
  | c :: r => by simp only [List.map_cons, isFzs, isFz, isFzs_ints r, Bool.and_self]
/-- the draws' state -/
structure Dr where
  L : List Int
  o : Bool
  C : List Int
  r : Int
  t : Int
def Dr.ks : List Key := [.inr "large", .inr "cells", .inr "rest", .inr "turn"]
def Dr.d (s : Dr) : D := .dct true Dr.ks [.lst true (s.L.map D.int), .lst s.o (s.C.map D.int), .int s.r, .int s.t]
structure Dr.Ok (b : Nat) (s : Dr) : Prop where
  L : ∀ x ∈ s.L, 0 ≤ x
  C : ∀ x ∈ s.C, 0 ≤ x
  r : 0 ≤ s.r
  t0 : 0 ≤ s.t
  t : s.t ≤ b
  ls : s.L.length ≤ 1000
  cs : s.C.length ≤ 1000
theorem Dr.own (s : Dr) : isFz s.d = false := rfl
theorem ch_large (s : Dr) : chN s.d (.sub (.inr "large")) = some 0 := by kernel_rfl
theorem ch_cells (s : Dr) : chN s.d (.sub (.inr "cells")) = some 1 := by kernel_rfl
theorem ch_rest (s : Dr) : chN s.d (.sub (.inr "rest")) = some 2 := by kernel_rfl
theorem ch_turn (s : Dr) : chN s.d (.sub (.inr "turn")) = some 3 := by kernel_rfl
theorem walk1 {d e t e' : D} {st : Stp} {j : Nat} (ho : ownC d = true) (hj : chN d st = some j) (he : (kids d)[j]? = some e) (hw : walk e [] = some (t, e')) : walk d [st] = some (t, setKids d ((kids d).set j e')) := by
  rw [walk]
  simp only [hj, he, ho, if_true, hw]
theorem walk_ints (o : Bool) (C : List Int) : walk (.lst o (C.map D.int)) [] = some (.lst false (C.map D.int), .lst false (C.map D.int)) := by
  cases o
  · have h : isFz (.lst false (C.map D.int)) = true := by simp only [isFz, isFzs_ints]; rfl
    rw [walk, if_pos h]
  · rw [walk, if_neg (by simp [isFz])]
    simp only [fz, fzs_ints]
theorem walk_rest (s : Dr) : walk s.d [.sub (.inr "rest")] = some (.int s.r, s.d) := walk1 rfl (ch_rest s) rfl rfl
theorem walk_turn (s : Dr) : walk s.d [.sub (.inr "turn")] = some (.int s.t, s.d) := walk1 rfl (ch_turn s) rfl rfl
theorem walk_cells (s : Dr) : walk s.d [.sub (.inr "cells")] = some (.lst false (s.C.map D.int), ({ s with o := false } : Dr).d) := walk1 rfl (ch_cells s) rfl (walk_ints _ _)
theorem set_rest (s : Dr) (i : Int) : dSetIt s.d (.str "rest") (.int i) = some ({ s with r := i } : Dr).d := by kernel_rfl
theorem set_turn (s : Dr) (i : Int) : dSetIt s.d (.str "turn") (.int i) = some ({ s with t := i } : Dr).d := by kernel_rfl
theorem at_large (s : Dr) : atO s.d [.sub (.inr "large")] = some (.lst true (s.L.map D.int)) := by
  simp only [atO, ch_large]
  rfl
theorem put_large (s : Dr) (L : List Int) : putO s.d [.sub (.inr "large")] (.lst true (L.map D.int)) = ({ s with L := L } : Dr).d := by
  simp only [putO, ch_large]
  rfl
theorem dMul_r {i j : Int} (h : -(2 ^ 64) < j ∧ j < 2 ^ 64) : dMul (.int i) (.int j) = some (.int (i * j)) := if_pos (.inr h)
theorem dMul_l {i j : Int} (h : -(2 ^ 64) < i ∧ i < 2 ^ 64) : dMul (.int i) (.int j) = some (.int (i * j)) := if_pos (.inl h)
theorem dMod_p {i j : Int} (h : 0 < j) : dMod (.int i) (.int j) = some (.int (i % j)) := by
  simp only [dMod]
  rw [if_pos (by omega), Int.fmod_eq_emod_of_nonneg _ (by omega)]
theorem dFdiv_p {i j : Int} (h : 0 < j) (h2 : j < 1073741824) : dFdiv (.int i) (.int j) = some (.int (i / j)) := by
  simp only [dFdiv]
  rw [if_pos (by omega), Int.fdiv_eq_ediv_of_nonneg _ (by omega)]
theorem dPow_p {i : Int} {j : Nat} (h : 0 ≤ i ∧ i < 2 ^ 64) (hj : j ≤ 1000000) : dPow (.int i) (.int j) = some (.int (i ^ j)) := by
  simp only [dPow]
  rw [if_pos (by omega)]
  simp
theorem ev_var {i : Nat} {δ : DL.Env} {d : D} (h : δ[i]? = some (some d)) (hf : isFz d = true) : mVar i δ = some (d, δ) := by
  unfold mVar
  rw [h]
  exact if_pos hf
theorem ev_int {i : Nat} {δ : DL.Env} {x : Int} (h : δ[i]? = some (some (.int x))) : mVar i δ = some (.int x, δ) := ev_var h rfl
theorem ev_bin {g : D → D → Option D} {a b : ME} {δ δ1 δ2 : DL.Env} {x y d : D} (h1 : a δ = some (x, δ1)) (h2 : b δ1 = some (y, δ2)) (h3 : g x y = some d) : mBin g a b δ = some (d, δ2) := by
  unfold mBin
  rw [h1]
  simp only [h2, h3]
theorem ev_cons {a : ME} {r : ML} {δ δ1 δ2 : DL.Env} {x : D} {xs : List D} (h1 : a δ = some (x, δ1)) (h2 : r δ1 = some (xs, δ2)) : mCons a r δ = some (x :: xs, δ2) := by
  unfold mCons
  rw [h1]
  simp only [h2]
theorem ev_callB {g : List D → Option D} {r : ML} {δ δ1 : DL.Env} {xs : List D} {d : D} (h1 : r δ = some (xs, δ1)) (h2 : g xs = some d) : mCallB g r δ = some (d, δ1) := by
  unfold mCallB
  rw [h1]
  simp only [h2]
theorem ev_call1 {g : List D → Option D} {a : ME} {δ δ1 : DL.Env} {x d : D} (h1 : a δ = some (x, δ1)) (h2 : g [x] = some d) : mCallB g (mCons a mNil) δ = some (d, δ1) := ev_callB (ev_cons h1 rfl) h2
theorem ev_tup {r : ML} {δ δ1 : DL.Env} {xs : List D} (h1 : r δ = some (xs, δ1)) (hz : xs.length ≤ sizeLine) : mTup r δ = some (.tup xs, δ1) := by
  unfold mTup
  rw [h1]
  exact if_pos hz
theorem ev_seq {a b : MS} {δ δ1 : DL.Env} (h : a δ = some (.nx δ1)) : sCons a b δ = b δ1 := by
  unfold sCons
  rw [h]
theorem ev_set {i : Nat} {m : ME} {δ δ1 : DL.Env} {d : D} (h : m δ = some (d, δ1)) (hi : i < δ1.length) : sSet i m δ = some (.nx (δ1.set i (some d))) := by
  unfold sSet
  rw [h]
  exact if_pos hi
theorem ev_ret {m : ME} {δ δ1 : DL.Env} {d : D} (h : m δ = some (d, δ1)) : sRet m δ = some (.rt d δ1) := by
  unfold sRet
  rw [h]
theorem ev_if1 {t : MT} {a b : MS} {δ δ1 : DL.Env} (h : t δ = some (true, δ1)) : sIf t a b δ = a δ1 := by
  unfold sIf
  rw [h]
theorem ev_if0 {t : MT} {a b : MS} {δ δ1 : DL.Env} (h : t δ = some (false, δ1)) : sIf t a b δ = b δ1 := by
  unfold sIf
  rw [h]
theorem ev_toT {m : ME} {δ δ1 : DL.Env} {b : Bool} (h : m δ = some (.bl b, δ1)) : toT m δ = some (b, δ1) := by
  unfold toT
  rw [h]
theorem ev_ints {m : ME} {δ δ1 : DL.Env} {o : Bool} {C : List Int} (h : m δ = some (.lst o (C.map D.int), δ1)) : iAny m δ = some (C.map D.int, δ1) := by
  have e : iLst m δ = some (C.map D.int, δ1) := by
    unfold iLst
    rw [h]
    simp only [itemsD, fzs_ints]
  unfold iAny
  rw [e]
theorem ev_for {i : MI} {t : MG} {b : MS} {δ δ1 : DL.Env} {ds : List D} (h : i δ = some (ds, δ1)) : sFor i t b δ = loopF t b ds δ1 := by
  unfold sFor
  rw [h]
theorem toPys_ints : ∀ L : List Int, toPys (L.map D.int) = some (L.map PyData.int)
  | [] => rfl
  | x :: r => by simp only [List.map_cons, toPys, toPy, toPys_ints r]
theorem canLay_ints : ∀ L : List Int, PyData.canLayAll0 (L.map PyData.int) = true
  | [] => rfl
  | x :: r => by simp only [List.map_cons, PyData.canLayAll0, PyData.canLay0, canLay_ints r]; rfl
theorem depth_ints : ∀ L : List Int, PyData.depthAll (L.map PyData.int) = 0
  | [] => rfl
  | x :: r => by simp only [List.map_cons, PyData.depthAll, PyData.depth, depth_ints r]; rfl
theorem shaped_ints (L : List Int) : SeqAt.shaped (.list (L.map PyData.int)) = true := by
  unfold SeqAt.shaped
  simp only [PyData.canLay0, canLay_ints, PyData.depth, depth_ints]
  decide
theorem dNe_ints {o o' : Bool} (L : List Int) : dNe (.lst o (L.map D.int)) (.lst o' []) = some (.bl (!L.isEmpty)) := by
  have e : pyEq (.lst o (L.map D.int)) (.lst o' []) = some L.isEmpty := by
    unfold pyEq
    simp only [toPy, toPys_ints, toPys, Option.map_some, shaped_ints]
    have : SeqAt.shaped (.list []) = true := shaped_ints []
    rw [this]
    cases L <;> rfl
  show (pyEq (.lst o (L.map D.int)) (.lst o' [])).map (fun b => D.bl !b) = _
  rw [e]
  rfl
theorem fz_dr (s : Dr) : fz s.d = .dct false Dr.ks [.lst false (s.L.map D.int), .lst false (s.C.map D.int), .int s.r, .int s.t] := by
  simp only [Dr.d, fz, fzs, fzs_ints]
theorem path_largeF (s : Dr) (r : DL.Env) : mPath 0 (pSub pVar (kC (.str "large"))) (some (fz s.d) :: r) = some (.lst false (s.L.map D.int), some (fz s.d) :: r) := by
  have hw : walk (fz s.d) [.sub (.inr "large")] = some (.lst false (s.L.map D.int), fz s.d) := by
    have hf : isFz (fz s.d) = true := isFz_fz _
    rw [fz_dr] at hf ⊢
    have hj : chN (.dct false Dr.ks [.lst false (s.L.map D.int), .lst false (s.C.map D.int), .int s.r, .int s.t]) (.sub (.inr "large")) = some 0 := by kernel_rfl
    rw [walk]
    simp only [hj]
    show (if false = true then _ else if isFz _ = true then _ else _) = _
    rw [if_neg (by decide), if_pos hf]
    show (match walk (.lst false (s.L.map D.int)) [] with | some (t, _) => some (t, _) | none => none) = _
    rw [walk_ints]
  show (match walk (fz s.d) [.sub (.inr "large")] with | some (t, d') => some (t, (some (fz s.d) :: r).set 0 (some d')) | none => none) = _
  rw [hw]
  rfl
theorem ev_large (s : Dr) (r : DL.Env) : purT [true] (toT (mBin dNe (mPath 0 (pSub pVar (kC (.str "large")))) (mLst mNil))) (some s.d :: r) = some (!s.L.isEmpty, some s.d :: r) := by
  unfold purT
  have e : (toT (mBin dNe (mPath 0 (pSub pVar (kC (.str "large")))) (mLst mNil))) (fzE (keepM [true] (some s.d :: r))) = some (!s.L.isEmpty, some (fz s.d) :: fzE (keepM [] r)) :=
    ev_toT (ev_bin (path_largeF s _) (y := .lst true []) rfl (dNe_ints _))
  rw [e]
theorem ev_callv0 {m : MF} {d d' r : D} {δ : DL.Env} (hf : isFz d = false) (h : m [d] = some (r, [d'])) : mCall m [.v 0] [] (some d :: δ) = some (r, some d' :: δ) := by
  simp [mCall, mArgs, lend, restore, hf, h]
/-- a def of the state and a value -/
theorem ev_callv0e {m : MF} {a : ME} {d d1 d' x x' r : D} {δ δ1 : DL.Env} (ha : a (some d :: δ) = some (x, some d1 :: δ1)) (hf : isFz d1 = false) (h : m [d1, x] = some (r, [d', x'])) : mCall m [.v 0, .e a] [] (some d :: δ) = some (r, some d' :: δ1) := by
  simp [mCall, mArgs, lend, restore, hf, h, ha]
theorem ev_if_e {t : MT} {a b : ME} {δ δ1 : DL.Env} {k : Bool} (h : t δ = some (k, δ1)) : mIf t a b δ = if k = true then a δ1 else b δ1 := by
  unfold mIf
  rw [h]
  cases k <;> rfl
theorem ev_pop0 (s : Dr) {x : Int} {L : List Int} (hL : s.L = x :: L) (r : DL.Env) : mMethP "list" gPopAt 0 (pSub pVar (kC (.str "large"))) (ksCons (kC (.int 0)) ksNil) (some s.d :: r) = some (.int x, some ({ s with L := L } : Dr).d :: r) := by
  show (match atO s.d [.sub (.inr "large")] with | some t => (if tyD "list" t = true then (match gPopAt t [.int 0] with | some (a, t') => some (a, (some s.d :: r).set 0 (some (putO s.d [.sub (.inr "large")] t'))) | none => none) else none) | none => none) = _
  rw [at_large, hL]
  have e : gPopAt (.lst true ((x :: L).map D.int)) [.int 0] = some (.int x, .lst true (L.map D.int)) := by
    simp only [gPopAt]
    rw [if_pos (show -(2 ^ 63 : Int) ≤ 0 ∧ (0 : Int) < 2 ^ 63 by decide)]
    have : ixN ((x :: L).map D.int).length 0 = some 0 := by
      unfold ixN
      simp
    simp only [this]
    rfl
  show (if true = true then (match gPopAt (.lst true ((x :: L).map D.int)) [.int 0] with | some (a, t') => some (a, (some s.d :: r).set 0 (some (putO s.d [.sub (.inr "large")] t'))) | none => none) else none) = _
  rw [if_pos rfl, e]
  show some (D.int x, some (putO s.d [.sub (.inr "large")] (.lst true (L.map D.int))) :: r) = _
  rw [put_large]
theorem ev_varf {i : Nat} {δ : DL.Env} {d : D} (h : δ[i]? = some (some d)) : mVar i δ = some (fz d, δ.set i (some (fz d))) := by
  unfold mVar
  rw [h]
  by_cases hf : isFz d = true
  · have e : δ.set i (some (fz d)) = δ := by
      rw [fz_isFz d hf]
      apply List.ext_getElem?
      intro n
      rw [List.getElem?_set]
      by_cases q : i = n
      · subst q
        rw [if_pos rfl, if_pos (List.getElem?_eq_some_iff.mp h).1, h]
      · rw [if_neg q]
    rw [e, fz_isFz d hf]
    exact if_pos hf
  · exact if_neg hf
theorem Dr.Ok.mono {s : Dr} {b c : Nat} (h : s.Ok b) (hc : b ≤ c) : s.Ok c := ⟨h.L, h.C, h.r, h.t0, by have := h.t; omega, h.ls, h.cs⟩
theorem atI_nat {α : Type} {ds : List α} {v : Int} {d : α} (h0 : 0 ≤ v) (h : ds[v.toNat]? = some d) : atI ds v = some d := by
  have hl := (List.getElem?_eq_some_iff.mp h).1
  unfold atI ixN
  rw [if_pos h0, if_pos (by omega)]
  exact h
theorem ev_rng {a : ME} {δ δ1 : DL.Env} {n : Int} (h : a δ = some (.int n, δ1)) (h0 : 0 ≤ n) (h1 : n < 2 ^ 62) : mRng1 (mCons a mNil) δ = some (rngD 0 n.toNat, δ1) := by
  unfold mRng1
  rw [ev_cons h rfl]
  exact if_pos ⟨by omega, h1⟩
theorem ev_lc {i : MI} {own : List Nat} {t : MG} {c : MT} {m : ME} {δ δ1 δ2 : DL.Env} {ds acc : List D} (h : i δ = some (ds, δ1)) (hl : ds.length ≤ sizeLine) (h2 : loopC own t c m ds (wipeE δ1 own) [] = some (acc, δ2)) : mLc i own t c m δ = some (.lst true acc, δ2) := by
  unfold mLc
  rw [h]
  simp only [hl, if_true, h2]
theorem fzs_get {ds : List D} {j : Nat} {d : D} (h : ds[j]? = some d) : (fzs ds)[j]? = some (fz d) := by rw [fzs_map, List.getElem?_map, h]; rfl
theorem fz_fz (d : D) : fz (fz d) = fz d := fz_isFz _ (isFz_fz d)
/-- a short word of small letters -/
structure Lab (z : Str) : Prop where
  a : 1 ≤ z.length
  b : z.length ≤ 6
  c : ∀ c ∈ z.cps.toList, 97 ≤ c ∧ c ≤ 122
theorem ev_mv {i : Nat} {δ : DL.Env} {d : D} (h : δ[i]? = some (some d)) : mMv i δ = some (d, δ.set i none) := by
  unfold mMv
  rw [h]
end DL
set_option Elab.async false
set_option linter.all false
set_option maxRecDepth 100000
set_option maxHeartbeats 4000001
namespace DL
open PySem.Spec PySem L2 PyProof.Rows
def sAsg (m : ME) (t : MG) : MS := fun δ => match m δ with
  | some (d, δ1) => match t d δ1 with
    | some δ2 => some (.nx δ2)
    | none => none
  | none => none
/-- enumerate of a list -/
def enumF : Nat → List D → List D
  | _, [] => []
  | k, d :: r => .tup [.int (k : Int), d] :: enumF (k + 1) r
theorem enum_len : ∀ (k : Nat) (ds : List D), (enumF k ds).length = ds.length
  | _, [] => rfl
  | k, d :: r => by simp [enumF, enum_len (k + 1) r]
theorem enum_get : ∀ {ds : List D} {k i : Nat} {d : D}, ds[i]? = some d → (enumF k ds)[i]? = some (.tup [.int ((k + i : Nat) : Int), d])
  | [], _, _, _, h => by simp at h
  | x :: r, k, 0, d, h => by
    have : x = d := by simpa using h
    subst this
    rfl
  | x :: r, k, i + 1, d, h => by
    have ih := enum_get (ds := r) (k := k + 1) (i := i) (d := d) (by simpa using h)
    show (enumF (k + 1) r)[i]? = _
    rw [ih]
    congr 4
    omega
/-- zip of two lists -/
def zipD (ds es : List D) : List D := (ds.zip es).map fun p => .tup [p.1, p.2]
/-- int(i), int(b), int(text) -/
def dInt2 : List D → Option D
  | [.str z] => match PySem.intText? z with
    | some n => if z.length ≤ 640 then some (.int n) else none
    | none => none
  | ds => dInt ds
theorem bc_int2 {X : Cx} : BC X (.type "int") dInt2 := by
  intro Z Hb H P vs ds d hl s e Q q
  unfold dInt2 at e
  split at e
  · rename_i z
    split at e
    · rename_i n hn
      split at e
      · rename_i hz
        cases e
        match vs, hl with
        | [v], _ =>
          have s0 : Sp X.K X.mg Z Hb H ((v, .str z) :: P) := s
          exact wC_of call_int_str ⟨z, n, by rw [s0.str], hn, hz, q _ _ (s0.drop.put fun _ => .int)⟩
      · cases e
    · cases e
  · exact bc_int hl s e Q q
/-- one mirror, or another -/
def mAlt (a b : ME) : ME := fun δ => match a δ with
  | some r => some r
  | none => b δ
theorem ig_alt {X : Cx} {e : Expr} {a b : ME} (ha : IG X e a) (hb : IG X e b) : IG X e (mAlt a b) := by
  intro Z Hb H σ δ L d δ' s e' Q q
  unfold mAlt at e'
  split at e'
  · rename_i r e1
    cases e'
    exact ha s e1 Q q
  · exact hb s e' Q q
end DL
set_option Elab.async false
set_option linter.all false
set_option maxRecDepth 100000
set_option maxHeartbeats 4000001
namespace DL
open PySem.Spec PySem L2 PyProof.Rows
/-- C(e, ..): __init__ upon a new instance -/
def mMake (c : Str) (m : MF) (as : List AS) (dd : List D) : ME := fun δ => match mArgs as δ with
  | some (rs, δ1) => match lend rs δ1 with
    | some (ls, δ2) => match m (.obj true c [] [] :: (ls.map (·.1) ++ dd)) with
      | some (.non, self :: ds') => if ds'.length = ls.length + dd.length then some (self, restore ls ds' δ2) else none
      | _ => none
    | none => none
  | none => none
/-- o.nm(e, ..): by the class of o -/
def mMethO (nm : Str) (tab : List (Str × MF × List D)) (ra : AS) (as : List AS) : ME := fun δ => match ra with
  | .v i => match δ[i]? with
    | some (some (.obj _ c ns _)) => if ns.contains nm then none else match tab.lookup c with
      | some (m, dd) => mCall m (.v i :: as) dd δ
      | none => none
    | _ => none
  | .e me => match me δ with
    | some (.obj o c ns vs, δ1) => if ns.contains nm then none else match tab.lookup c with
      | some (m, dd) => mCall m (.e (fun _ => some (.obj o c ns vs, δ1)) :: as) dd δ
      | none => none
    | _ => none
theorem Sp.ins {K : PySem.W.Frag} {mg : Str → Option Value} {H Hb : Hp} {Z : Addr → Prop} {P : PL} {v : V} {o : Bool} {c : Str} {ns : List Str} {vs : List D} (s : Sp K mg Z Hb H ((v, .obj o c ns vs) :: P)) :
    ∃ a C dx fs, v = .ref a ∧ H a = some (.ins C dx fs) ∧ mg c = some (.ref C) ∧ fs.map (·.1) = ns := by
  obtain ⟨Y, F, r⟩ := s.head
  cases r with
  | objF h z hc e t _ => exact ⟨_, _, _, _, rfl, h, hc, e⟩
  | objO h hc e t _ => exact ⟨_, _, _, _, rfl, h, hc, e⟩
end DL
set_option Elab.async false
set_option linter.all false
set_option maxRecDepth 100000
set_option maxHeartbeats 4000001
namespace DL
open PySem.Spec PySem L2 PyProof.Rows
def BTs : List BT := [.int, .bool, .str, .tup, .lst, .dct]
def Tns : List String := ["NoneType", "bool", "int", "str", "tuple", "list", "dict"]
/-- own classes, each with those above it -/
abbrev CT := List (Str × List Str)
structure ClsI (K : PySem.W.Frag) (C : Addr) : Prop where
  cl : Cls K C
  ha : PySem.W.findIn K (.ref C) "__class__" = some (some (.builtin "object.__class__"))
  hn : PySem.W.specialIn K (.builtin "object.__class__") "__get__" = some (some (.builtin "getset_descriptor.__get__"))
  ht : PySem.W.takesIn K (.builtin "object.__class__") = some true
  hm : PySem.W.mroIn K C (.type "object") = some true
structure ClsT (K : PySem.W.Frag) (mg : Str → Option Value) (cs : CT) : Prop where
  one : ∀ c bs, cs.lookup c = some bs → ∃ C, mg c = some (.ref C) ∧ ClsI K C ∧ (∀ t : BT, PySem.W.kitOne K (.ref C) (.type t.name) = some false) ∧ ∀ T ∈ Tns, PySem.W.kitOne K (.type T) (.ref C) = some false
  two : ∀ c bs x bx C C', cs.lookup c = some bs → cs.lookup x = some bx → mg c = some (.ref C) → mg x = some (.ref C') → PySem.W.kitOne K (.ref C) (.ref C') = some (decide (c = x) || bs.contains x)
def clsTB (K : PySem.W.Frag) (cs : CT) : Bool := cs.all fun p =>
  (He.Fa.cls p.1).ok K && (decide (PySem.W.findIn K (.ref (He.ga K p.1)) "__class__" = some (some (.builtin "object.__class__"))) && (decide (PySem.W.specialIn K (.builtin "object.__class__") "__get__" = some (some (.builtin "getset_descriptor.__get__"))) &&
    (decide (PySem.W.takesIn K (.builtin "object.__class__") = some true) && (decide (PySem.W.mroIn K (He.ga K p.1) (.type "object") = some true) && (BTs.all (fun t => decide (PySem.W.kitOne K (.ref (He.ga K p.1)) (.type t.name) = some false)) &&
    (Tns.all (fun T => decide (PySem.W.kitOne K (.type T) (.ref (He.ga K p.1)) = some false)) && cs.all fun q => decide (PySem.W.kitOne K (.ref (He.ga K p.1)) (.ref (He.ga K q.1)) = some (decide (p.1 = q.1) || p.2.contains q.1))))))))
theorem lookup_mem {α β : Type} [BEq α] [LawfulBEq α] : ∀ {l : List (α × β)} {a : α} {b : β}, l.lookup a = some b → (a, b) ∈ l
  | [], _, _, h => by simp at h
  | (x, y) :: r, a, b, h => by
    rw [List.lookup_cons] at h
    split at h
    · rename_i e
      cases h
      have : a = x := by simpa using e
      subst this
      exact List.mem_cons_self
    · exact List.mem_cons_of_mem _ (lookup_mem h)
theorem clsT_of {K : PySem.W.Frag} {h : Heap} {mg : Str → Option Value} {cs : CT} (X : K.In h) (G : h.Ns mainGlobals mg) (c : clsTB K cs = true) (hg : ∀ p ∈ cs, mg p.1 = some (.ref (He.ga K p.1))) : ClsT K mg cs := by
  have all : ∀ p ∈ cs, _ := fun p hp => List.all_eq_true.mp c p hp
  refine ⟨fun c bs hl => ?_, fun c bs x bx C C' hl hx hC hC' => ?_⟩
  · have hp := lookup_mem hl
    have a := all _ hp
    simp only [Bool.and_eq_true, decide_eq_true_eq] at a
    obtain ⟨a1, a2, a3, a4, a5, a6, a7, a8⟩ := a
    refine ⟨_, hg _ hp, ⟨He.cls_ok a1, a2, a3, a4, a5⟩, fun t => ?_, fun T hT => ?_⟩
    · have := List.all_eq_true.mp a6 t (by cases t <;> decide)
      exact of_decide_eq_true this
    · exact of_decide_eq_true (List.all_eq_true.mp a7 T hT)
  · have hp := lookup_mem hl
    have hq := lookup_mem hx
    have a := all _ hp
    simp only [Bool.and_eq_true, decide_eq_true_eq] at a
    obtain ⟨a1, a2, a3, a4, a5, a6, a7, a8⟩ := a
    have e1 := (hg _ hp).symm.trans hC
    have e2 := (hg _ hq).symm.trans hC'
    cases e1
    cases e2
    exact of_decide_eq_true (List.all_eq_true.mp a8 _ hq)
def inT (cs : CT) (c : Str) : Bool := (cs.lookup c).isSome
def subT (cs : CT) (c x : Str) : Bool := decide (c = x) || ((cs.lookup c).getD []).contains x
def dIsO (cs : CT) : List D → Option D
  | [.obj _ c _ _, .glo x] => if inT cs c && inT cs x then some (.bl (subT cs c x)) else none
  | [d, .glo x] => if inT cs x && (isOf .int d).isSome then some (.bl false) else none
  | [.obj _ c _ _, .ty _] => if inT cs c then some (.bl false) else none
  | [.obj _ c _ _, .tup ts] => match tysOf ts with
    | some (_ :: _) => if inT cs c then some (.bl false) else none
    | _ => none
  | ds => dIsi ds
section
variable {K : PySem.W.Frag} {mg : Str → Option Value} {H Hb : Hp} {Z : Addr → Prop}
theorem Rep.tyx {v : V} {d : D} {F : List Addr} (r : Rep K mg H Z v d F) (h0 : isOf .int d ≠ none) : ∃ T ∈ Tns, TyX K H v (.type T) := by
  cases r with
  | non => exact ⟨"NoneType", by decide, .base .non⟩
  | bl => exact ⟨"bool", by decide, .base (.bl _)⟩
  | int => exact ⟨"int", by decide, .base (.int _)⟩
  | str => exact ⟨"str", by decide, .base (.str _)⟩
  | ty => exact absurd rfl h0
  | glo _ => exact absurd rfl h0
  | tup h _ => exact ⟨"tuple", by decide, tyx_tup h⟩
  | scr h _ => exact ⟨"list", by decide, tyx_scr h⟩
  | lstF h _ _ => exact ⟨"list", by decide, .base (.lst h)⟩
  | lstO h _ => exact ⟨"list", by decide, .base (.lst h)⟩
  | dctF h _ _ _ =>
    refine ⟨"dict", by decide, ?_⟩
    rcases h with h | ⟨o, h⟩
    · exact .base (.dK h)
    · exact .fDict h
  | dctO h _ _ => exact ⟨"dict", by decide, .base (.dK h)⟩
  | objF _ _ _ _ _ _ => exact absurd rfl h0
  | exc _ _ _ _ _ _ => exact absurd rfl h0
  | hole => exact absurd rfl h0
  | tab _ _ _ _ _ => exact absurd rfl h0
  | objO _ _ _ _ _ => exact absurd rfl h0
  | rawF _ _ _ _ => exact absurd rfl h0
  | rawO _ _ _ => exact absurd rfl h0
theorem Sp.gloA {P : PL} {v : V} {x : Str} (s : Sp K mg Z Hb H ((v, .glo x) :: P)) : ∃ a, v = .ref a ∧ mg x = some (.ref a) := by
  obtain ⟨Y, F, r⟩ := s.head
  cases r with
  | glo h => exact ⟨_, rfl, h⟩
theorem kit_none {c : Value} (hc : ∀ t : BT, PySem.W.kitOne K c (.type t.name) = some false) : ∀ bs : List BT, PySem.W.kitAny K c (bs.map fun t => Value.type t.name) = some false
  | [] => rfl
  | t :: bs => kitAny_cons (hc t) (fun _ => kit_none hc bs) (fun h => by cases h)
end
theorem bc_isO {X : Cx} {cs : CT} (T : ClsT X.K X.mg cs) : BC X (.builtin "isinstance") (dIsO cs) := by
  intro Z Hb H P vs ds d hl s e Q q
  unfold dIsO at e
  split at e
  · rename_i o c ns ws x
    split at e
    · rename_i hin
      cases e
      have hin := Bool.and_eq_true_iff.mp hin
      obtain ⟨bs, hb⟩ := Option.isSome_iff_exists.mp (show (cs.lookup c).isSome = true from hin.1)
      obtain ⟨bx, hx⟩ := Option.isSome_iff_exists.mp (show (cs.lookup x).isSome = true from hin.2)
      match vs, hl with
      | [v, w], _ =>
        have s0 : Sp X.K X.mg Z Hb H ((v, .obj o c ns ws) :: (w, .glo x) :: P) := s
        obtain ⟨a, C, dx, fs, rfl, hA, hC, hfs⟩ := s0.ins
        obtain ⟨C', rfl, hC'⟩ := s0.drop.gloA
        obtain ⟨C1, hC1, ti, _, _⟩ := T.one c bs hb
        rw [hC] at hC1
        cases hC1
        have k := T.two c bs x bx C C' hb hx hC hC'
        have e3 : subT cs c x = (decide (c = x) || bs.contains x) := by unfold subT; rw [hb]; rfl
        rw [e3] at q
        exact wC_of call_isi ⟨.ref a, .ref C', .ref C, .ref C', _, rfl, .own C', .base (.ins hA ti.cl ti.ha ti.hn ti.ht ti.hm), k, q _ _ (s0.drop.drop.put fun _ => .bl)⟩
    · cases e
  · rename_i d0 x _
    split at e
    · rename_i hin
      cases e
      have hin := Bool.and_eq_true_iff.mp hin
      obtain ⟨bx, hx⟩ := Option.isSome_iff_exists.mp (show (cs.lookup x).isSome = true from hin.1)
      match vs, hl with
      | [v, w], _ =>
        have s0 : Sp X.K X.mg Z Hb H ((v, d0) :: (w, .glo x) :: P) := s
        obtain ⟨C', rfl, hC'⟩ := s0.drop.gloA
        obtain ⟨Y, F, r⟩ := s0.head
        obtain ⟨Tn, hT, ty⟩ := r.tyx (by
          intro h
          have h2 := hin.2
          rw [h] at h2
          cases h2)
        obtain ⟨C1, hC1, _, _, kt⟩ := T.one x bx hx
        rw [hC'] at hC1
        cases hC1
        exact wC_of call_isi ⟨v, .ref C', .type Tn, .ref C', _, rfl, .own C', ty, kt Tn hT, q _ _ (s0.drop.drop.put fun _ => .bl)⟩
    · cases e
  · rename_i o c ns ws t
    split at e
    · rename_i hin
      cases e
      obtain ⟨bs, hb⟩ := Option.isSome_iff_exists.mp (show (cs.lookup c).isSome = true from hin)
      match vs, hl with
      | [v, w], _ =>
        have s0 : Sp X.K X.mg Z Hb H ((v, .obj o c ns ws) :: (w, .ty t) :: P) := s
        obtain ⟨a, C, dx, fs, rfl, hA, hC, hfs⟩ := s0.ins
        have ew := s0.drop.ty
        obtain ⟨C1, hC1, ti, kt, _⟩ := T.one c bs hb
        rw [hC] at hC1
        cases hC1
        exact wC_of call_isi ⟨.ref a, w, .ref C, .type t.name, _, rfl, by rw [ew]; exact .ty _, .base (.ins hA ti.cl ti.ha ti.hn ti.ht ti.hm), kt t, q _ _ (s0.drop.drop.put fun _ => .bl)⟩
    · cases e
  · rename_i o c ns ws ts
    split at e
    · rename_i t0 bs0 e0
      split at e
      · rename_i hin
        cases e
        obtain ⟨bs, hb⟩ := Option.isSome_iff_exists.mp (show (cs.lookup c).isSome = true from hin)
        match vs, hl with
        | [v, w], _ =>
          have s0 : Sp X.K X.mg Z Hb H ((v, .obj o c ns ws) :: (w, .tup ts) :: P) := s
          obtain ⟨a, C, dx, fs, rfl, hA, hC, hfs⟩ := s0.ins
          obtain ⟨C1, hC1, ti, kt, _⟩ := T.one c bs hb
          rw [hC] at hC1
          cases hC1
          have fin : Sp X.K X.mg Z Hb H ((V.bl false, D.bl false) :: P) := s0.drop.drop.put fun _ => .bl
          obtain ⟨Y', F', r'⟩ := s0.drop.head
          cases r' with
          | @tup a2 cs' _ _ h' t' =>
            have hp := cls_all e0 t'
            exact wC_of call_isiS ⟨.ref a, a2, cs', .ref C, _, _, rfl, h', hp, .base (.ins hA ti.cl ti.ha ti.hn ti.ht ti.hm), kit_none kt _, q _ _ fin⟩
      · cases e
    · cases e
  · exact bc_isi hl s e Q q
end DL
set_option Elab.async false
set_option linter.all false
set_option maxRecDepth 100000
set_option maxHeartbeats 4000001
namespace DL
open PySem.Spec PySem L2 PyProof.Rows
/-- k: a list, else a tuple -/
def itN (k : Bool) : String := cond k "list_iterator" "tuple_iterator"
def IsIt (k : Bool) (h : Heap) (it a : Addr) (i : Nat) : Prop := cond k (h.IsListIter it a i) (h.IsTupleIter it a i)
def IsSq (k : Bool) (h : Heap) (a : Addr) (items : Array Value) : Prop := cond k (h.IsList a items) (h.IsTuple a items)
def SqK (k : Bool) (K : PySem.W.Frag) (H : Hp) (a : Addr) (xs : List V) : Prop := cond k (SqL K H a xs) (SqT K H a xs)
section
variable {prog : Program} {w : World} {A : Around} {E : Value → Shared → Prop} {s : Shared} {k : Bool} {h h' : Heap} {it a : Addr} {i : Nat} {items : Array Value}
theorem drawsK (hh : A.handled = none) (k : Bool) (it a : Addr) (hne : a ≠ it) (items : Array Value) : Draws prog w A it [it, a] items.size (fun i v => items[i]? = some v) (fun i h => IsIt k h it a i ∧ IsSq k h a items) := by
  cases k
  · exact Draws.tuple hh it a hne items
  · exact Draws.list hh it a hne items
theorem IsIt.ob (x : IsIt k h it a i) : ∃ o, h.get? it = some o ∧ ∀ v, o.data ≠ .cell v := by
  cases k
  · obtain ⟨o, e, _, d⟩ := (show h.IsTupleIter it a i from x)
    exact ⟨o, e, fun v q => by rw [d] at q; cases q⟩
  · obtain ⟨o, e, _, d⟩ := (show h.IsListIter it a i from x)
    exact ⟨o, e, fun v q => by rw [d] at q; cases q⟩
theorem IsIt.lt (x : IsIt k h it a i) : it < h.objs.size := by
  obtain ⟨o, e, _⟩ := x.ob
  exact Heap.lt_size e
theorem IsIt.keep (x : IsIt k h it a i) (e : ∀ o, h.get? it = some o → h'.get? it = some o) : IsIt k h' it a i := by
  cases k
  · exact Heap.IsTupleIter.at (show h.IsTupleIter it a i from x) e
  · exact Heap.IsListIter.at (show h.IsListIter it a i from x) e
theorem IsSq.keep (x : IsSq k h a items) (e : ∀ o, h.get? a = some o → h'.get? a = some o) : IsSq k h' a items := by
  cases k
  · exact Heap.IsTuple.at (show h.IsTuple a items from x) e
  · exact Heap.IsList.at (show h.IsList a items from x) e
theorem IsSq.lt (x : IsSq k h a items) : a < h.objs.size := by
  cases k
  · obtain ⟨o, e, _⟩ := (show h.IsTuple a items from x)
    exact Heap.lt_size e
  · obtain ⟨o, e, _⟩ := (show h.IsList a items from x)
    exact Heap.lt_size e
end
def lays (h : Heap) : List Obj → Heap
  | [] => h
  | o :: os => lays (h.push o) os
theorem lays_size : ∀ (os : List Obj) (h : Heap), (lays h os).objs.size = h.objs.size + os.length
  | [], _ => rfl
  | o :: os, h => by rw [lays, lays_size os, Heap.size_push, List.length_cons, Nat.add_assoc, Nat.add_comm 1]
theorem lays_old {b : Addr} {o : Obj} : ∀ (os : List Obj) (h : Heap), h.get? b = some o → (lays h os).get? b = some o
  | [], _, e => e
  | u :: os, _, e => lays_old os _ (Heap.get?_push_of_some u e)
theorem lays_at (os : List Obj) : ∀ (h : Heap) (i : Nat) (o : Obj), os[i]? = some o → o.isFreed = false → (lays h os).get? (h.objs.size + i) = some o := by
  induction os with
  | nil => intro h i o e; exact nomatch e
  | cons u os ih =>
    intro h i o e f
    cases i with
    | zero =>
      cases (Option.some.inj e : u = o)
      exact lays_old os _ (Heap.get?_push_size h f)
    | succ i =>
      have z := ih (h.push u) i o e f
      rw [Heap.size_push, Nat.add_assoc, Nat.add_comm 1 i] at z
      exact z
/-- an iterator over l, of a list or of a tuple, ahead of its first item -/
abbrev itO (k : Bool) (l : Addr) : Obj := { cls := .type (itN k), data := .fields #[.ref l, .int 0 0] }
abbrev enumO (it : Addr) : Obj := { cls := .type "enumerate", data := .fields #[.none, .bool false, .ref it, rawInt 0, .none, .none] }
theorem meets_enumT (l : Addr) (items : Array Value) (n : Nat) (dct : Option Addr) (sl : Array (Option Value)) : Meets (Builtin.«enumerate.__new__» ⟨[.type "enumerate", .ref l], []⟩)
    (fun _ R s => s.heap.get? l = some { cls := .type "tuple", dict := dct, data := .seq items n, slots := sl } ∧ R (.ok (.ret (.ref (s.heap.push (itO false l)).objs.size))) { s with heap := lays s.heap [itO false l, enumO s.heap.objs.size] }) := by
  apply Meets.of_wp
  rintro prog w A R ⟨hp, g, d, tk, os⟩ ⟨hl, h⟩
  have own := sub_enumerate
  have seq : Heap.IsTuple (Shared.heap ⟨hp, g, d, tk, os⟩) l items := ⟨_, hl, rfl, n, rfl⟩
  (wp_walk using AutoSeq1.wpAny_loadPart' hl)
  apply wpAny_stack_any
  intro st
  apply wpAny_pure
  split
  · rename_i c _ _ _ _ _
    rcases Bool.eq_false_or_eq_true (c == Value.type "enumerate") with e | e <;> rw [e] <;> (wp_walk using AutoSeq1.wpAny_loadPart' hl, wpAny_pyIter_tuple seq) <;> exact ⟨_, rfl, h⟩
  · (wp_walk using AutoSeq1.wpAny_loadPart' hl, wpAny_pyIter_tuple seq)
    exact ⟨_, rfl, h⟩
section
variable {prog : Program} {w : World} {A : Around} {E : Value → Shared → Prop} {s : Shared}
theorem it_laid (k : Bool) {h : Heap} {i : Nat} {l : Addr} {os : List Obj} (e : os[i]? = some (itO k l)) : IsIt k (lays h os) (h.objs.size + i) l 0 := by
  have z := lays_at os h i _ e rfl
  cases k <;> exact ⟨_, z, rfl, rfl⟩
theorem call_enumK {k : Bool} {l : Addr} {items : Array Value} {Q : Value → Shared → Prop} (seq : IsSq k s.heap l items)
    (h : ∀ h', IsEnum h' (s.heap.objs.size + 1) s.heap.objs.size 0 .none → IsIt k h' s.heap.objs.size l 0 → h'.objs.size = s.heap.objs.size + 2 → (∀ b o, s.heap.get? b = some o → h'.get? b = some o) → Q (.ref (s.heap.objs.size + 1)) { s with heap := h' }) :
    wpAny (model prog w) A (call (Value.type "enumerate") [Value.ref l]) Q E s := by
  match k, seq, h with
  | true, seq, h => exact call_enumerate_list seq h
  | false, seq, h =>
    have e1 : (lays s.heap [itO false l, enumO s.heap.objs.size]).get? (s.heap.objs.size + 1) = some (enumO s.heap.objs.size) := lays_at _ _ 1 _ rfl rfl
    have q := h _ e1 (it_laid false (i := 0) rfl) (lays_size _ _) fun b o => lays_old _ _
    obtain ⟨⟨_, dct, _, sl⟩, hl, rfl, n, rfl⟩ := seq
    apply callType_new F.called_enumerate (by decide) (F.typeCall_enumerate_1 _) (F.newCall_enumerate_1 _) (fun obj => F.args_object_init_2 obj _) F.entry_enumerate_new (meets_enumT l items n dct sl)
    refine ⟨hl, ?_⟩
    rw [Heap.size_push]
    exact ⟨⟨_, e1, rfl⟩, q⟩
end
theorem sqK_seq {X : Cx} {pins : List (Addr × Obj)} {σ : L2.St} {H : Hp} {s : Shared} {k : Bool} {a : Addr} {xs : List V} (I : Inv X pins σ H s) (h : SqK k X.K H a xs) : ∃ its, Vals xs its ∧ IsSq k s.heap a its.toArray := by
  cases k
  · obtain ⟨its, rv, p, _⟩ := I.tuple (show SqT X.K H a xs from h)
    exact ⟨its, rv, p⟩
  · obtain ⟨its, rv, p, _⟩ := I.list (show SqL X.K H a xs from h)
    exact ⟨its, rv, p.isList⟩
theorem sqK_inj {X : Cx} {pins : List (Addr × Obj)} {σ : L2.St} {H : Hp} {s : Shared} {k : Bool} {a : Addr} {xs ys : List V} (I : Inv X pins σ H s) (h : SqK k X.K H a xs) (h2 : SqK k X.K H a ys) : xs = ys := by
  cases k
  · exact I.tuple_inj (show SqT X.K H a xs from h) (show SqT X.K H a ys from h2)
  · exact I.list_inj (show SqL X.K H a xs from h) (show SqL X.K H a ys from h2)
theorem dk {X : Cx} {pins : List (Addr × Obj)} {σ : L2.St} {H : Hp} {s : Shared} (I : Inv X pins σ H s) (hc : X.calm = true) (k : Bool) (it a : Addr) (hne : a ≠ it) (items : Array Value) : Draws X.prog X.w X.A.in1 it [it, a] items.size (fun i v => items[i]? = some v) (fun i h => IsIt k h it a i ∧ IsSq k h a items) :=
  drawsK (show X.A.in1.handled = none from I.ok.hd hc) k it a hne items
theorem le2 (n b : Nat) (h : b = n + 1 ∨ b = n) : n ≤ b := by omega
section
variable {X : Cx} {pins : List (Addr × Obj)} {σ : L2.St} {H : Hp} {s : Shared} {h' : Heap} {tk : Nat} {ch : List Addr}
/-- a turn that lays one new pair behind the heap's end and touches ch besides -/
theorem pairLaid {x y : V} {u v : Value} (I : Inv X pins σ H s) (fp : ∀ b ∈ ch, FpOk X pins H b) (old : ∀ b ∈ ch, b < s.heap.objs.size) (rx : RelV x u) (ry : RelV y v)
    (at_ : h'.get? s.heap.objs.size = some { cls := .type "tuple", data := .seq #[u, v] }) (same : ∀ b o, b ∉ ch → s.heap.get? b = some o → h'.get? b = some o) :
    Inv X pins σ (upd H s.heap.objs.size (.tup [x, y])) { s with heap := h', toks := tk } ∧ ∀ b ∈ ch, upd H s.heap.objs.size (.tup [x, y]) b = none := by
  constructor
  · apply I.turnedNew same fp (Nat.le_refl _)
    exact ⟨(by decide : 2 ≤ sizeLine), [u, v], Paired.cons rx (Paired.cons ry Paired.nil), ⟨_, at_, rfl, 0, rfl⟩⟩
  · intro b m
    rw [upd_ne (fun e => Nat.lt_irrefl _ (e ▸ old b m)), (fp b m).1]
/-- the item that a sequence's iterator hands out -/
theorem handed {xs : List V} {its : List Value} {x : V} {i : Nat} (rv : Vals xs its) (e : xs[i]? = some x) : i < its.toArray.size ∧ ∀ u, its.toArray[i]? = some u → RelV x u := by
  have ⟨u, at_, r⟩ := rv.get e
  have lt := (List.getElem?_eq_some_iff.mp at_).1
  refine ⟨by rw [List.size_toArray]; exact lt, fun v q => ?_⟩
  rw [List.getElem?_toArray, at_] at q
  injection q with q
  exact q ▸ r
theorem lt_of_at {xs : List V} {x : V} {i n : Nat} (l : xs.length = n) (e : xs[i]? = some x) : i + 1 ≤ n := l ▸ (List.getElem?_eq_some_iff.mp e).1
end
/-- the sequence at a (n long) as it stands at each turn, each item in a new pair -/
def IteK (k : Bool) (n : Nat) (K : PySem.W.Frag) (a : Addr) : It :=
  ⟨fun i H => ∃ (xs : List V) (x : V), SqK k K H a xs ∧ xs.length = n ∧ xs[i]? = some x, fun i H v H' => ∃ T x, v = .ref T ∧ H T = none ∧ H' = upd H T (.tup [.int (i : Nat), x]) ∧ ∀ xs, SqK k K H a xs → xs[i]? = some x, fun i H => ∃ xs : List V, SqK k K H a xs ∧ xs.length = n ∧ n ≤ i⟩
theorem turn_enumK {P : Program} {w : World} {K : PySem.W.Frag} {elts : List Expr} {kk : Nat} {tpos : Pos} (k : Bool) (n : Nat) (a e it : Addr) :
    Turn P w K (.Tuple elts kk tpos) (IteK k n K a) [e, it] e (fun i h => (∃ old, IsEnum h e it ((i : Nat) : Int) old) ∧ IsIt k h it a i ∧ e ≠ it ∧ a ≠ e ∧ a ≠ it ∧ i ≤ n) where
  mem := List.mem_cons_self
  self := by
    rintro A i s Q E ⟨⟨_, en⟩, _⟩ q
    exact wpAny_pyIter_enum en q
  obj := by
    rintro i h ⟨⟨_, en⟩, ti, _⟩
    exact List.forall_mem_cons.mpr ⟨⟨_, en, by simp⟩, List.forall_mem_cons.mpr ⟨ti.ob, nofun⟩⟩
  keep := by
    rintro i h h' ⟨⟨old, en⟩, ti, rest⟩ stay
    exact ⟨⟨old, stay e (.head _) _ en⟩, ti.keep (stay it (.tail _ (.head _))), rest⟩
  done := by
    rintro X rfl rfl rfl calm i pins s σ H E inv fp ⟨⟨old, en⟩, ti, ei, ae, ai, le⟩ ⟨xs, sq, len, over⟩
    have ⟨its, rv, isq⟩ := sqK_seq inv sq
    have sz : its.toArray.size = i := by rw [List.size_toArray, ← rv.length]; omega
    have st : IsIt k s.heap it a its.toArray.size ∧ IsSq k s.heap a its.toArray := by rw [sz]; exact ⟨ti, isq⟩
    exact wpAny_pyNext_enum_endD (dk inv calm k it a ai its.toArray) en st fun h' only => ⟨rfl, inv.turnedL (ch := [e, it]) (fun b o nb q => only b o (fun z => nb (z ▸ .tail _ (.head _))) q) fp⟩
  item := by
    rintro X rfl rfl rfl calm i pins s σ H E inv fp ⟨⟨old, en⟩, ti, ei, ae, ai, le⟩ ⟨xs, x, sq, len, at_i⟩
    have ⟨its, rv, isq⟩ := sqK_seq inv sq
    have ⟨lt, rel⟩ := handed rv at_i
    apply wpAny_pyNext_enum_itemD (dk inv calm k it a ai its.toArray) en ⟨ti, isq⟩ lt ei (by simp [ei, ae.symm])
    intro u h1 tk hu ho st1 pair _ k1
    refine ⟨_, rfl, wpAny_letOwnedTupleGo_enum (s := { s with heap := h1, toks := tk + 1 }) ho fun h2 en2 sb => ?_⟩
    have below : ∀ b ∈ [e, it], b < s.heap.objs.size := List.forall_mem_cons.mpr ⟨Heap.lt_size en, List.forall_mem_cons.mpr ⟨ti.lt, nofun⟩⟩
    have laid := pairLaid (tk := tk + 1) (h' := h2) (x := .int (i : Nat)) (y := x) inv fp below ⟨tk, rfl⟩ (rel u hu) ((sb.2 _ (fun z => Nat.lt_irrefl _ (z ▸ below e (.head _)))).trans pair) fun b o nb q =>
      (sb.2 b fun z => nb (z ▸ .head _)).trans (k1 b o (fun z => nb (z ▸ .head _)) (fun z => nb (z ▸ .tail _ (.head _))) q)
    exact ⟨V.ref s.heap.objs.size, _, laid.1, rfl, ⟨_, _, rfl, inv.hok.fresh (Nat.le_refl _), rfl, fun ys sy => sqK_inj inv sq sy ▸ at_i⟩,
      ⟨⟨_, (Int.natCast_succ i).symm ▸ en2⟩, st1.1.keep fun o q => (sb.2 it ei.symm).trans q, ei, ae, ai, lt_of_at len at_i⟩, laid.2⟩
def iEnumK (K : PySem.W.Frag) (ta : TA) : TI := fun σ H R => ta σ H fun vs H1 => ∃ k a xs, vs = [.ref a] ∧ SqK k K H1 a xs ∧ R (IteK k xs.length K a) H1
theorem pi_enumK {X : Cx} {e : Expr} {ta : TA} {p pos tpos : Pos} {elts : List Expr} {kk : Nat} (hg : Gl X "enumerate") (hm : X.mg "enumerate" = none) (ha : PA X [e] ta) (hs : starEach [e] X.env = [(false, eval e X.env)]) :
    PI X (.Tuple elts kk tpos) (.Call (.Name "enumerate" p) [e] [] pos) (iEnumK X.K ta) := by
  constructor
  intro pins s σ H R inv way
  refine Call_ (ld_blt inv hg hm boot_enumerate ?_)
  refine PyProof.Rows.callWith_type1 (thn (ha.run pos pins s σ H _ inv way) ?_) hs rfl
  rintro us s1 ⟨vs, H1, inv1, rel, k, a, xs, rfl, sq, go⟩
  have ⟨v, ev, rv⟩ := vals1 rel
  subst ev
  cases rv
  have ⟨its, vals, isq⟩ := sqK_seq inv1 sq
  apply call_enumK isq
  intro h' en ti _ kept
  apply wpAny_pyIter_enum en
  have lt := isq.lt
  have new : ∀ b, b ∈ [s1.heap.objs.size + 1, s1.heap.objs.size] → FpOk X pins H1 b := fun b m =>
    have le := le2 s1.heap.objs.size b (by simpa using m)
    inv1.fpOk le (inv1.hok.fresh le)
  exact ⟨_, _, _, _, H1, rfl, inv1.kept (t' := s1.toks) kept, turn_enumK k xs.length a _ _, ⟨⟨_, en⟩, ti, Nat.succ_ne_self _, Nat.ne_of_lt (Nat.lt_succ_of_lt lt), Nat.ne_of_lt lt, Nat.zero_le _⟩, new, go⟩
end DL
set_option Elab.async false
set_option linter.all false
set_option maxRecDepth 100000
set_option maxHeartbeats 4000001
namespace DL
open PySem.Spec PySem L2 PyProof.Rows
section
variable {K : PySem.W.Frag} {mg : Str → Option Value} {H : Hp} {Z : Addr → Prop} {a : Addr} {od : Obj} {kvs : List (Key × V)}
theorem SqT.lock {b : Addr} {vs : List V} (ha : H a = some (.dK kvs)) (h : SqT K H b vs) : SqT K (upd H a (.frz od (.dK kvs))) b vs := by
  refine SqT.keep h fun c o e p => ?_
  rw [upd_ne fun z => by subst z; rw [ha] at e; cases e; cases p]
  exact e
theorem SqL.lock {b : Addr} {vs : List V} (ha : H a = some (.dK kvs)) (h : SqL K H b vs) : SqL K (upd H a (.frz od (.dK kvs))) b vs := by
  rcases h with (h | ⟨o, h⟩) | h
  · exact .inl (.inl (by rw [upd_ne fun z => by subst z; rw [ha] at h; cases h]; exact h))
  · exact .inl (.inr ⟨o, by rw [upd_ne fun z => by subst z; rw [ha] at h; cases h]; exact h⟩)
  · exact .inr h
theorem Rd.lock {b : Addr} {u : HO} (ha : H a = some (.dK kvs)) (h : Rd H b u) : Rd (upd H a (.frz od (.dK kvs))) b u := by
  by_cases e : b = a
  · subst e
    rcases h with h | ⟨o, h⟩
    · rw [ha] at h; cases h
      exact .inr ⟨od, upd_same⟩
    · rw [ha] at h; cases h
  · rcases h with h | ⟨o, h⟩
    · exact .inl (by rw [upd_ne e]; exact h)
    · exact .inr ⟨o, by rw [upd_ne e]; exact h⟩
theorem neA {b : Addr} {u : HO} (ha : H a = some (.dK kvs)) (h : H b = some u) (hu : ∀ k, u ≠ .dK k) : upd H a (.frz od (.dK kvs)) b = some u := by
  rw [upd_ne fun z => by subst z; rw [ha] at h; cases h; exact hu _ rfl]
  exact h
theorem PlT.lock {t : Addr} (ha : H a = some (.dK kvs)) (h : PlT H t) : PlT (upd H a (.frz od (.dK kvs))) t := by
  obtain ⟨o, xs, e, d⟩ := h
  exact ⟨o, xs, neA ha e (fun k q => nomatch q), d⟩
mutual
theorem Rep.lock {v : V} {d : D} {F : List Addr} (ha : H a = some (.dK kvs)) (r : Rep K mg H Z v d F) (hF : a ∉ F) : Rep K mg (upd H a (.frz od (.dK kvs))) Z v d F := by
  cases r with
  | non => exact .non
  | bl => exact .bl
  | int => exact .int
  | str => exact .str
  | ty => exact .ty
  | glo h => exact .glo h
  | tup h t => exact .tup (SqT.lock ha h) (t.lock ha hF)
  | scr h t =>
    refine .scr ?_ (t.lock ha hF)
    rcases h with ⟨o, h⟩ | h
    · exact .inl ⟨o, neA ha h fun k q => nomatch q⟩
    · exact .inr h
  | rawF h p z m => exact .rawF (Rd.lock ha h) p z (m.imp fun t q => PlT.lock ha q)
  | rawO h p m => exact .rawO (by rw [upd_ne fun e => hF (by rw [← e]; exact List.mem_cons_self)]; exact h) p (m.imp fun t q => PlT.lock ha q)
  | lstF h z t => exact .lstF (neA ha h fun k q => nomatch q) z (t.lock ha hF)
  | lstO h t => exact .lstO (neA ha h fun k q => nomatch q) (t.lock ha fun m => hF (List.mem_cons_of_mem _ m))
  | dctF h z e t => exact .dctF (Rd.lock ha h) z e (t.lock ha hF)
  | dctO h e t => exact .dctO (by rw [upd_ne fun e => hF (by rw [← e]; exact List.mem_cons_self)]; exact h) e (t.lock ha fun m => hF (List.mem_cons_of_mem _ m))
  | objF h z c e t m => exact .objF (neA ha h fun k q => nomatch q) z c e (t.lock ha hF) (m.imp fun t q => PlT.lock ha q)
  | exc h z c e n t => exact .exc (neA ha h fun k q => nomatch q) z c (e.imp id fun ⟨dd, q, nz, r, y⟩ => ⟨dd, q, nz, neA ha r (fun k q => nomatch q), y⟩) n (t.lock ha hF)
  | hole => exact .hole
  | tab b h i j l => exact .tab b (neA ha h fun k q => nomatch q) i j fun c hc => neA ha (l c hc) fun k q => by unfold LamX.CodeO at q; nomatch q
  | objO h c e t m => exact .objO (neA ha h fun k q => nomatch q) c e (t.lock ha fun m => hF (List.mem_cons_of_mem _ m)) (m.imp fun t q => PlT.lock ha q)
theorem Reps.lock {vs : List V} {ds : List D} {F : List Addr} (ha : H a = some (.dK kvs)) (r : Reps K mg H Z vs ds F) (hF : a ∉ F) : Reps K mg (upd H a (.frz od (.dK kvs))) Z vs ds F := by
  cases r with
  | nil => exact .nil
  | cons q t => exact .cons (q.lock ha fun m => hF (List.mem_append_left _ m)) (t.lock ha fun m => hF (List.mem_append_right _ m))
end
theorem neU {b : Addr} {u : HO} (ha : H a = some (.frz od (.dK kvs))) (h : H b = some u) (hu : u ≠ .frz od (.dK kvs)) : upd H a (.dK kvs) b = some u := by
  rw [upd_ne fun z => by subst z; rw [ha] at h; cases h; exact hu rfl]
  exact h
theorem Rd.unlock {b : Addr} {u : HO} (ha : H a = some (.frz od (.dK kvs))) (h : Rd H b u) (p : pers u = false) : Rd (upd H a (.dK kvs)) b u := by
  by_cases e : b = a
  · subst e
    rcases h with h | ⟨o, h⟩
    · rw [ha] at h; cases h; cases p
    · rw [ha] at h; cases h
      exact .inl upd_same
  · rcases h with h | ⟨o, h⟩
    · exact .inl (by rw [upd_ne e]; exact h)
    · exact .inr ⟨o, by rw [upd_ne e]; exact h⟩
theorem SqT.unlock {b : Addr} {vs : List V} (ha : H a = some (.frz od (.dK kvs))) (h : SqT K H b vs) : SqT K (upd H a (.dK kvs)) b vs := by
  rcases h with (h | ⟨o, h⟩) | h
  · exact .inl (.inl (neU ha h fun q => nomatch q))
  · exact .inl (.inr ⟨o, neU ha h fun q => nomatch q⟩)
  · exact .inr h
theorem PlT.unlock {t : Addr} (ha : H a = some (.frz od (.dK kvs))) (h : PlT H t) : PlT (upd H a (.dK kvs)) t := by
  obtain ⟨o, xs, e, d⟩ := h
  exact ⟨o, xs, neU ha e (fun q => nomatch q), d⟩
mutual
theorem Rep.unlock {v : V} {d : D} {F : List Addr} (ha : H a = some (.frz od (.dK kvs))) (r : Rep K mg H Z v d F) : Rep K mg (upd H a (.dK kvs)) Z v d F := by
  cases r with
  | non => exact .non
  | bl => exact .bl
  | int => exact .int
  | str => exact .str
  | ty => exact .ty
  | glo h => exact .glo h
  | tup h t => exact .tup (SqT.unlock ha h) (t.unlock ha)
  | scr h t =>
    refine .scr ?_ (t.unlock ha)
    rcases h with ⟨o, h⟩ | h
    · exact .inl ⟨o, neU ha h fun q => nomatch q⟩
    · exact .inr h
  | rawF h p z m => exact .rawF (Rd.unlock ha h p) p z (m.imp fun t q => PlT.unlock ha q)
  | rawO h p m => exact .rawO (neU ha h fun q => by rw [q] at p; cases p) p (m.imp fun t q => PlT.unlock ha q)
  | lstF h z t => exact .lstF (neU ha h fun q => nomatch q) z (t.unlock ha)
  | lstO h t => exact .lstO (neU ha h fun q => nomatch q) (t.unlock ha)
  | dctF h z e t => exact .dctF (Rd.unlock ha h rfl) z e (t.unlock ha)
  | dctO h e t => exact .dctO (neU ha h fun q => nomatch q) e (t.unlock ha)
  | objF h z c e t m => exact .objF (neU ha h fun q => nomatch q) z c e (t.unlock ha) (m.imp fun t q => PlT.unlock ha q)
  | exc h z c e n t => exact .exc (neU ha h fun q => nomatch q) z c (e.imp id fun ⟨dd, q, nz, r, y⟩ => ⟨dd, q, nz, neU ha r (fun q => nomatch q), y⟩) n (t.unlock ha)
  | hole => exact .hole
  | tab b h i j l => exact .tab b (neU ha h fun q => nomatch q) i j fun c hc => neU ha (l c hc) fun q => by unfold LamX.CodeO at q; nomatch q
  | objO h c e t m => exact .objO (neU ha h fun q => nomatch q) c e (t.unlock ha) (m.imp fun t q => PlT.unlock ha q)
theorem Reps.unlock {vs : List V} {ds : List D} {F : List Addr} (ha : H a = some (.frz od (.dK kvs))) (r : Reps K mg H Z vs ds F) : Reps K mg (upd H a (.dK kvs)) Z vs ds F := by
  cases r with
  | nil => exact .nil
  | cons q t => exact .cons (q.unlock ha) (t.unlock ha)
end
theorem Rps.lock {P : PL} {F : List Addr} (ha : H a = some (.dK kvs)) (r : Rps K mg H Z P F) (hF : a ∉ F) : Rps K mg (upd H a (.frz od (.dK kvs))) Z P F := by
  induction r with
  | nil => exact .nil
  | cons h _ ih => exact .cons (h.lock ha fun m => hF (List.mem_append_left _ m)) (ih fun m => hF (List.mem_append_right _ m))
theorem Rps.unlock {P : PL} {F : List Addr} (ha : H a = some (.frz od (.dK kvs))) (r : Rps K mg H Z P F) : Rps K mg (upd H a (.dK kvs)) Z P F := by
  induction r with
  | nil => exact .nil
  | cons h _ ih => exact .cons (h.unlock ha) ih
/-- the ground with the locked dict -/
def pin (Hb : Hp) (a : Addr) (o : HO) : Hp := fun x => if x = a then some o else Hb x
variable {Hb : Hp} {P : PL} {v : V} {ks : List Key} {ds : List D}
theorem Sp.lock (s : Sp K mg Z Hb H ((.ref a, .dct false ks ds) :: P)) (ha : H a = some (.dK kvs)) : Sp K mg Z (pin Hb a (.frz od (.dK kvs))) (upd H a (.frz od (.dK kvs))) ((.ref a, .dct false ks ds) :: P) := by
  obtain ⟨⟨F, r, nd, hb⟩, b, fr⟩ := s
  have hF : a ∉ F := by
    cases r with
    | cons q t => cases q with
      | dctF h z e t' => simpa using z.2
  refine ⟨⟨F, r.lock ha hF, nd, fun x m => ?_⟩, fun x o e => ?_, fun x e => ?_⟩
  · have ne : x ≠ a := fun e => hF (e ▸ m)
    show (if x = a then _ else Hb x) = none
    rw [if_neg ne]
    exact hb x m
  · by_cases e' : x = a
    · subst e'
      have : some (HO.frz od (.dK kvs)) = some o := (if_pos rfl).symm.trans e
      rw [upd_same]
      exact this
    · rw [upd_ne e']
      exact b x o ((if_neg e').symm.trans e)
  · by_cases e' : x = a
    · subst e'
      have : some (HO.frz od (.dK kvs)) = none := (if_pos rfl).symm.trans e
      cases this
    · exact fr x ((if_neg e').symm.trans e)
theorem Sp.pinned {o : HO} (s : Sp K mg Z (pin Hb a o) H P) : H a = some o := s.base a o (if_pos rfl)
theorem Sp.unlock {H0 : Hp} {P0 : PL} (s0 : Sp K mg Z Hb H0 P0) (h0 : H0 a = some (.dK kvs)) (s : Sp K mg Z (pin Hb a (.frz od (.dK kvs))) H P) : Sp K mg Z Hb (upd H a (.dK kvs)) P := by
  have ha := s.pinned
  obtain ⟨⟨F, r, nd, hb⟩, b, fr⟩ := s
  refine ⟨⟨F, r.unlock ha, nd, fun x m => ?_⟩, fun x o e => ?_, s0.fresh⟩
  · have h := hb x m
    by_cases e' : x = a
    · have : some (HO.frz od (.dK kvs)) = none := (if_pos e').symm.trans h
      cases this
    · exact (if_neg e').symm.trans h
  · by_cases e' : x = a
    · subst e'
      rw [upd_same, ← h0]
      exact s0.base _ _ e
    · rw [upd_ne e']
      exact b x o ((if_neg e').trans e)
/-- it was locked before -/
theorem Sp.pin1 (s : Sp K mg Z Hb H ((.ref a, .dct false ks ds) :: P)) (ha : H a = some (.frz od (.dK kvs))) : Sp K mg Z (pin Hb a (.frz od (.dK kvs))) H ((.ref a, .dct false ks ds) :: P) := by
  obtain ⟨⟨F, r, nd, hb⟩, b, fr⟩ := s
  have hF : a ∉ F := by
    cases r with
    | cons q t => cases q with
      | dctF h z e t' => simpa using z.2
  refine ⟨⟨F, r, nd, fun x m => ?_⟩, fun x o e => ?_, fun x e => ?_⟩
  · have ne : x ≠ a := fun e => hF (e ▸ m)
    exact (if_neg ne).trans (hb x m)
  · by_cases e' : x = a
    · subst e'
      have : some (HO.frz od (.dK kvs)) = some o := (if_pos rfl).symm.trans e
      rw [ha]
      exact this
    · exact b x o ((if_neg e').symm.trans e)
  · by_cases e' : x = a
    · subst e'
      have : some (HO.frz od (.dK kvs)) = none := (if_pos rfl).symm.trans e
      cases this
    · exact fr x ((if_neg e').symm.trans e)
theorem Sp.unpin {H0 : Hp} {P0 : PL} (s0 : Sp K mg Z Hb H0 P0) (h0 : H0 a = some (.frz od (.dK kvs))) (s : Sp K mg Z (pin Hb a (.frz od (.dK kvs))) H P) : Sp K mg Z Hb H P := by
  have ha := s.pinned
  obtain ⟨⟨F, r, nd, hb⟩, b, fr⟩ := s
  refine ⟨⟨F, r, nd, fun x m => ?_⟩, fun x o e => ?_, s0.fresh⟩
  · have h := hb x m
    by_cases e' : x = a
    · have : some (HO.frz od (.dK kvs)) = none := (if_pos e').symm.trans h
      cases this
    · exact (if_neg e').symm.trans h
  · by_cases e' : x = a
    · subst e'
      rw [ha, ← h0]
      exact s0.base _ _ e
    · exact b x o ((if_neg e').trans e)
theorem Rc1.lock {st : Stp} {u w : V} (ha : H a = some (.dK kvs)) (h : Rc1 K mg H u st w) : Rc1 K mg (upd H a (.frz od (.dK kvs))) u st w := by
  cases st with
  | sub x =>
    rcases h with ⟨b, k2, e, h, l⟩ | ⟨b, vs, i, ek, e, h, l⟩
    · exact .inl ⟨b, k2, e, Rd.lock ha h, l⟩
    · exact .inr ⟨b, vs, i, ek, e, h.imp (SqL.lock ha) (SqT.lock ha), l⟩
  | fld cs n =>
    obtain ⟨b, C, dx, fs, c, e, h, r⟩ := h
    exact ⟨b, C, dx, fs, c, e, neA (od := od) ha h (fun k q => nomatch q), r⟩
theorem Rc.lock : ∀ {p : List Stp} {u w : V}, H a = some (.dK kvs) → Rc K mg H u p w → Rc K mg (upd H a (.frz od (.dK kvs))) u p w
  | [], _, _, _, h => h
  | s :: p, u, w, ha, ⟨x, h1, h2⟩ => ⟨x, h1.lock ha, Rc.lock ha h2⟩
end
def keyT : Key → D
  | .inl i => .int i
  | .inr z => .str z
theorem keyT_rep {K : PySem.W.Frag} {mg : Str → Option Value} {H : Hp} {Y : Addr → Prop} (k : Key) : Rep K mg H Y (kV k) (keyT k) [] := by
  cases k
  · exact .int
  · exact .str
theorem yields_key {X : Cx} {Hb : Hp} {a : Addr} {od : Obj} {kvs : List (Key × V)} : Yields X (pin Hb a (.frz od (.dK kvs))) (Itk a od kvs) ((kvs.map (·.1)).map keyT) [] := by
  intro Z H P i s
  have ha := s.pinned
  refine ⟨fun hi => ⟨⟨ha, by simpa using hi⟩, fun x H' y => ?_⟩, fun hi => ⟨ha, by simpa using hi⟩⟩
  obtain ⟨rfl, k, v, hk, rfl⟩ := y
  refine ⟨keyT k, ?_, s.put fun _ => keyT_rep k⟩
  rw [List.getElem?_map, List.getElem?_map, hk]
  rfl
/-- the keys of the dict at a place -/
def keysAt (i : Nat) (mp : MP) : MI := fun δ => match mPath i mp δ with
  | some (.dct _ ks _, δ1) => some (ks.map keyT, δ1)
  | _ => none
section
variable {X : Cx} {P : Nat → Bool} {tg iter elt : Expr} {ifs : List Expr} {body : List Stmt} {t : MG} {b : MS} {is : List Nat} {pos : Pos} {i : Nat} {mp : MP}
/-- the walk over a locked dict -/
theorem keys_wI {Z : Addr → Prop} {Hb H : Hp} {σ : L2.St} {δ δ1 : Env} {L : PL} {a : Addr} {od : Obj} {kvs : List (Key × V)} {v : V} {p : List Stp} (ho : IP X iter i mp)
    (s : Sq X Z (pin Hb a (.frz od (.dK kvs))) H σ δ L) (s1 : Sq X Z (pin Hb a (.frz od (.dK kvs))) H σ δ1 L) (e1 : mp δ = some p) (hv : σ[i]? = some (some v)) (rc : Rc X.K X.mg H v p (.ref a)) (R : It → Hp → Prop)
    (q : ∀ J H' LI, Yields X (pin Hb a (.frz od (.dK kvs))) J ((kvs.map (·.1)).map keyT) LI → Sq X Z (pin Hb a (.frz od (.dK kvs))) H' σ δ1 (LI ++ L) → R J H') : wI X tg iter σ H R := by
  refine wI_of (pi_keys pe_w) (ho s e1 hv rc _ fun H1 g1 => ?_)
  have s2 : Sq X Z (pin Hb a (.frz od (.dK kvs))) H1 σ δ1 L := ⟨s1.sp.grow g1, s1.dom⟩
  exact ⟨a, od, rfl, .inl ⟨kvs, s2.sp.pinned, q _ _ [] yields_key s2⟩⟩
theorem walk_fz : ∀ {p : List Stp} {d t d' : D}, walk d p = some (t, d') → isFz t = true := by
  intro p
  induction p with
  | nil =>
    intro d t d' e
    unfold walk at e
    split at e
    · rename_i h; cases e; exact h
    · cases e; exact isFz_fz d
  | cons st p ih =>
    intro d t d' e
    unfold walk at e
    split at e
    · split at e
      · split at e
        · split at e
          · rename_i e2
            cases e
            exact ih e2
          · cases e
        · split at e
          · split at e
            · rename_i e2
              cases e
              exact ih e2
            · cases e
          · cases e
      · cases e
    · cases e
/-- the dict at a place: found, frozen -/
theorem keysAt_of {δ δ1 : Env} {ds : List D} (e : keysAt i mp δ = some (ds, δ1)) : ∃ d0 p d' ks vs, δ[i]? = some (some d0) ∧ mp δ = some p ∧ walk d0 p = some (.dct false ks vs, d') ∧ δ1 = δ.set i (some d') ∧ ds = ks.map keyT := by
  unfold keysAt at e
  split at e
  · rename_i o ks vs δ2 e1
    cases e
    unfold mPath at e1
    split at e1
    · rename_i d0 hd
      split at e1
      · rename_i p e2
        split at e1
        · rename_i t d' e3
          cases e1
          have hz := walk_fz e3
          have : o = false := by
            simp only [isFz, Bool.and_eq_true, Bool.not_eq_true'] at hz
            exact hz.1
          subst this
          exact ⟨d0, p, d', ks, vs, hd, e2, e3, rfl, rfl⟩
        · cases e1
      · cases e1
    · cases e1
  · cases e
theorem Sp.dctF {K : PySem.W.Frag} {mg : Str → Option Value} {H Hb : Hp} {Z : Addr → Prop} {P : PL} {w : V} {ks : List Key} {vs : List D} (s : Sp K mg Z Hb H ((w, .dct false ks vs) :: P)) : ∃ a kvs, w = .ref a ∧ Rd H a (.dK kvs) ∧ kvs.map (·.1) = ks := by
  obtain ⟨Y, F, r⟩ := s.head
  cases r with
  | dctF h z e t => exact ⟨_, _, rfl, h, e.1⟩
theorem Fin.unlock {Z : Addr → Prop} {Hb H : Hp} {σ : L2.St} {L P0 : PL} {Dn : Ends} {fl : Fl} {a : Addr} {od : Obj} {kvs : List (Key × V)} (s0 : Sp X.K X.mg Z Hb H P0) (ha : H a = some (.dK kvs)) (f : Fin X P Z Hb σ L Dn fl) :
    Fin X P Z (pin Hb a (.frz od (.dK kvs))) σ L ⟨fun σ' H' => H' a = some (.frz od (.dK kvs)) ∧ Dn.nx σ' (upd H' a (.dK kvs)), fun v H' => H' a = some (.frz od (.dK kvs)) ∧ Dn.rt v (upd H' a (.dK kvs)), fun σ' H' => H' a = some (.frz od (.dK kvs)) ∧ Dn.bk σ' (upd H' a (.dK kvs)), fun σ' H' => H' a = some (.frz od (.dK kvs)) ∧ Dn.ct σ' (upd H' a (.dK kvs))⟩ fl := by
  cases fl with
  | nx δ' => exact fun σ' H' s' sm => ⟨s'.sp.pinned, f σ' _ ⟨s0.unlock ha s'.sp, s'.dom⟩ sm⟩
  | bk δ' => exact fun σ' H' s' sm => ⟨s'.sp.pinned, f σ' _ ⟨s0.unlock ha s'.sp, s'.dom⟩ sm⟩
  | ct δ' => exact fun σ' H' s' sm => ⟨s'.sp.pinned, f σ' _ ⟨s0.unlock ha s'.sp, s'.dom⟩ sm⟩
  | rt d δ' => exact fun v σ' H' s' sm => ⟨Sp.pinned s'.sp, f v σ' _ ⟨s0.unlock ha s'.sp, s'.dom⟩ sm⟩
theorem Fin.unpin {Z : Addr → Prop} {Hb H : Hp} {σ : L2.St} {L P0 : PL} {Dn : Ends} {fl : Fl} {a : Addr} {od : Obj} {kvs : List (Key × V)} (s0 : Sp X.K X.mg Z Hb H P0) (ha : H a = some (.frz od (.dK kvs))) (f : Fin X P Z Hb σ L Dn fl) :
    Fin X P Z (pin Hb a (.frz od (.dK kvs))) σ L Dn fl := by
  cases fl with
  | nx δ' => exact fun σ' H' s' sm => f σ' _ ⟨s0.unpin ha s'.sp, s'.dom⟩ sm
  | bk δ' => exact fun σ' H' s' sm => f σ' _ ⟨s0.unpin ha s'.sp, s'.dom⟩ sm
  | ct δ' => exact fun σ' H' s' sm => f σ' _ ⟨s0.unpin ha s'.sp, s'.dom⟩ sm
  | rt d δ' => exact fun v σ' H' s' sm => f v σ' _ ⟨s0.unpin ha s'.sp, s'.dom⟩ sm
theorem is_forK (hpo : PassesOwn (model X.prog X.w) X.A X.env X.xe) (hc : X.calm = true) (ho : IP X iter i mp) (hm : ∀ δ δ', mp δ = mp δ') (ht : IGt X is tg t) (hb : ISs X P body b) (hP : ∀ i ∈ is, P i = false) (hs : ∀ x, foldedSetIterable iter X.env x = pure x) :
    IS X P (.For tg iter body [] pos) (sFor (keysAt i mp) t b) := by
  intro Z Hb H σ δ L fl s e Dn f
  unfold sFor at e
  split at e
  · rename_i ds δ1 e1
    obtain ⟨d0, p, d', ks, vs, hd, e2, e3, rfl, rfl⟩ := keysAt_of e1
    obtain ⟨v, hv⟩ := s.dom.2 i d0 hd
    obtain ⟨w, rc, s1⟩ := (s.out hv hd).walk e3
    obtain ⟨a, kvs, rfl, rd, rfl⟩ := s1.dctF
    rw [hm δ (δ.set i (some d'))] at e2
    have back : ∀ {Hb' H' : Hp} {D0 : D}, Sp X.K X.mg Z Hb' H' ((.ref a, D0) :: (v, d') :: (L ++ prs σ (δ.set i none))) → Sq X Z Hb' H' σ (δ.set i (some d')) L := fun s2 => Sq.back (L' := L) s.dom hv hd s2.drop
    rcases rd with ha | ⟨od, ha⟩
    · refine wS_of (ps_lock ps_w) ⟨a, .dK kvs, ha, trivial, fun od => ?_⟩
      have s3 := back (s1.lock (od := od) ha)
      exact for_core hpo hc ht hb hP hs (fun R q => keys_wI ho s3 s3 e2 hv (rc.lock ha) R q) e _ (f.unlock s1 ha)
    · have s3 := back (s1.pin1 ha)
      exact for_core hpo hc ht hb hP hs (fun R q => keys_wI ho s3 s3 e2 hv rc R q) e _ (f.unpin s1 ha)
  · cases e
end
section
variable {X : Cx} {elt tg iter : Expr} {ifs : List Expr} {scope : Scope} {own : List (Str × Nat)} {pos : Pos} {t : MG} {c : MT} {m : ME} {is : List Nat} {i : Nat} {mp : MP}
theorem lcK_run (ho : IP X iter i mp) (hm : ∀ δ δ', mp δ = mp δ') (ht : ∀ s H C cl fp, IGt (bX X scope s H C cl fp) is tg t) (hc : ∀ s H C cl fp, ITs (bX X scope s H C cl fp) ifs c) (he : ∀ s H C cl fp, IG (bX X scope s H C cl fp) elt m)
    {vs : List Nat} (hsub : ∀ i ∈ is, i ∈ vs) {Z : Addr → Prop} {Hb H : Hp} {σ : L2.St} {δ δ' : Env} {L : PL} {d : D} (s : Sq X Z Hb H σ δ L) (e : mLc (keysAt i mp) vs t c m δ = some (d, δ')) :
    ∃ a kvs, (H a = some (.dK kvs) ∧ ∀ od (Q : VK), (∀ v H', Sq X Z Hb (upd H' a (.dK kvs)) σ δ' ((v, d) :: L) → H' a = some (.frz od (.dK kvs)) → Q v H') → tLc (wI X tg iter) (fun v σ H Q => ∀ s H0 C cl fp, wG (bX X scope s H0 C cl fp) tg v σ H Q) (fun σ H Q => ∀ s H0 C cl fp, wTs (bX X scope s H0 C cl fp) ifs σ H Q) (fun σ H Q => ∀ s H0 C cl fp, wE (bX X scope s H0 C cl fp) elt σ H Q) vs σ (upd H a (.frz od (.dK kvs))) Q) ∨
      ((∃ od, H a = some (.frz od (.dK kvs))) ∧ ∀ (Q : VK), (∀ v H', Sq X Z Hb H' σ δ' ((v, d) :: L) → Q v H') → tLc (wI X tg iter) (fun v σ H Q => ∀ s H0 C cl fp, wG (bX X scope s H0 C cl fp) tg v σ H Q) (fun σ H Q => ∀ s H0 C cl fp, wTs (bX X scope s H0 C cl fp) ifs σ H Q) (fun σ H Q => ∀ s H0 C cl fp, wE (bX X scope s H0 C cl fp) elt σ H Q) vs σ H Q) := by
  unfold mLc at e
  split at e
  · rename_i ds δ1 e1
    split at e
    · rename_i hz
      split at e
      · rename_i accF δ2 e4
        cases e
        obtain ⟨d0, p, d', ks, ws, hd, e2, e3, rfl, rfl⟩ := keysAt_of e1
        obtain ⟨v, hv⟩ := s.dom.2 i d0 hd
        obtain ⟨w, rc, s1⟩ := (s.out hv hd).walk e3
        obtain ⟨a, kvs, rfl, rd, rfl⟩ := s1.dctF
        rw [hm δ (δ.set i (some d'))] at e2
        have back : ∀ {Hb' H' : Hp} {D0 : D}, Sp X.K X.mg Z Hb' H' ((.ref a, D0) :: (v, d') :: (L ++ prs σ (δ.set i none))) → Sq X Z Hb' H' σ (δ.set i (some d')) L := fun s2 => Sq.back (L' := L) s.dom hv hd s2.drop
        rcases rd with ha | ⟨od, ha⟩
        · refine ⟨a, kvs, .inl ⟨ha, fun od Q q => ?_⟩⟩
          have s3 := back (s1.lock (od := od) ha)
          exact lc_core ht hc he hsub hz (fun R q => keys_wI ho s3 s3 e2 hv (rc.lock ha) R q) e4 Q fun v H' s' => q v H' ⟨s1.unlock ha s'.sp, s'.dom⟩ s'.sp.pinned
        · refine ⟨a, kvs, .inr ⟨⟨od, ha⟩, fun Q q => ?_⟩⟩
          have s3 := back (s1.pin1 ha)
          exact lc_core ht hc he hsub hz (fun R q => keys_wI ho s3 s3 e2 hv rc R q) e4 Q fun v H' s' => q v H' ⟨s1.unpin ha s'.sp, s'.dom⟩
      · cases e
    · cases e
  · cases e
theorem ig_lcK (hcl : X.calm = true) (hN : X.N.Nodup) (ho : IP X iter i mp) (hm : ∀ δ δ', mp δ = mp δ') (ok : BlkOk X.N X.env.scope scope own) (ht : ∀ s H C cl fp, IGt (bX X scope s H C cl fp) is tg t) (hc : ∀ s H C cl fp, ITs (bX X scope s H C cl fp) ifs c) (he : ∀ s H C cl fp, IG (bX X scope s H C cl fp) elt m)
    (hsub : ∀ i ∈ is, i ∈ own.map (·.2)) (hs : ∀ x, foldedSetIterable iter X.env x = pure x) : IG X (.ListComp elt [⟨tg, iter, ifs, 0⟩] scope pos) (mLc (keysAt i mp) (own.map (·.2)) t c m) := by
  intro Z Hb H σ δ L d δ' s e Q q
  have rule := pe_lc (pos := pos) (wi := wI X tg iter) (g := fun v σ H Q => ∀ s H0 C cl fp, wG (bX X scope s H0 C cl fp) tg v σ H Q) (tt := fun σ H Q => ∀ s H0 C cl fp, wTs (bX X scope s H0 C cl fp) ifs σ H Q) (te := fun σ H Q => ∀ s H0 C cl fp, wE (bX X scope s H0 C cl fp) elt σ H Q) hcl hN pi_w ok (fun s H C cl fp => ⟨fun pins s' σ H' v u Q I r h => h s H C cl fp pins s' u I r⟩) (fun s H C cl fp => ⟨fun pins s' σ H' Q I h => h s H C cl fp pins s' I⟩) (fun s H C cl fp => ⟨fun pins s' σ H' Q I h => h s H C cl fp pins s' I⟩) hs
  rcases lcK_run ho hm ht hc he hsub s e with ⟨a, kvs, ⟨ha, run⟩ | ⟨⟨od, ha⟩, run⟩⟩
  · exact wE_of (pe_lock rule) ⟨a, .dK kvs, ha, trivial, fun od => run od _ fun v H' s' h' => ⟨h', q v _ s'⟩⟩
  · exact wE_of rule (run Q q)
theorem is_setLcK {P : Nat → Bool} {j : Nat} {y : Str} {py spos : Pos} (hP : P j = false) (hcl : X.calm = true) (hN : X.N.Nodup) (hy : X.N[j]? = some y) (hyl : X.env.scope.names.lookup y = some .local)
    (hsw : swapsWith (.ListComp elt [⟨tg, iter, ifs, 0⟩] scope pos) (some (.Name y py)) spos.line X.env = pure true) (ho : IP X iter i mp) (hm : ∀ δ δ', mp δ = mp δ') (ok : BlkOk X.N X.env.scope scope own) (ht : ∀ s H C cl fp, IGt (bX X scope s H C cl fp) is tg t) (hc : ∀ s H C cl fp, ITs (bX X scope s H C cl fp) ifs c) (he : ∀ s H C cl fp, IG (bX X scope s H C cl fp) elt m)
    (hsub : ∀ i ∈ is, i ∈ own.map (·.2)) (hs : ∀ x, foldedSetIterable iter X.env x = pure x) : IS X P (.Assign [.Name y py] (.ListComp elt [⟨tg, iter, ifs, 0⟩] scope pos) spos) (sSet j (mLc (keysAt i mp) (own.map (·.2)) t c m)) := by
  intro Z Hb H σ δ L fl s e Dn f
  unfold sSet at e
  split at e
  · rename_i d δ1 e1
    split at e
    · rename_i hl
      cases e
      have rule := ps_setLc (pos := pos) (spos := spos) (py := py) (wi := wI X tg iter) (g := fun v σ H Q => ∀ s H0 C cl fp, wG (bX X scope s H0 C cl fp) tg v σ H Q) (tt := fun σ H Q => ∀ s H0 C cl fp, wTs (bX X scope s H0 C cl fp) ifs σ H Q) (te := fun σ H Q => ∀ s H0 C cl fp, wE (bX X scope s H0 C cl fp) elt σ H Q) hcl hN hy hyl hsw pi_w ok (fun s H C cl fp => ⟨fun pins s' σ H' v u Q I r h => h s H C cl fp pins s' u I r⟩) (fun s H C cl fp => ⟨fun pins s' σ H' Q I h => h s H C cl fp pins s' I⟩) (fun s H C cl fp => ⟨fun pins s' σ H' Q I h => h s H C cl fp pins s' I⟩) hs
      rcases lcK_run ho hm ht hc he hsub s e1 with ⟨a, kvs, ⟨ha, run⟩ | ⟨⟨od, ha⟩, run⟩⟩
      · exact wS_of (ps_lock rule) ⟨a, .dK kvs, ha, trivial, fun od => run od _ fun v H' s' h' => ⟨h', f _ _ (s'.store hl) (.set hP _)⟩⟩
      · exact wS_of rule (run _ fun v H' s' => f _ _ (s'.store hl) (.set hP _))
    · cases e
  · cases e
end
end DL
set_option Elab.async false
set_option linter.all false
set_option maxRecDepth 100000
set_option maxHeartbeats 4000001
namespace DL
open PySem.Spec PySem L2 PyProof.Rows
def kindD : D → Bool
  | .tup _ => false
  | _ => true
def seqD : D → Option (List D)
  | .lst _ ds => some ds
  | .tup ds => some ds
  | .scr ds => some ds
  | _ => none
theorem seqD_fz {d : D} {ds : List D} (e : seqD d = some ds) : seqD (fz d) = some (fzs ds) := by
  cases d <;> cases e <;> rfl
section
variable {K : PySem.W.Frag} {mg : Str → Option Value} {H Hb : Hp} {Z : Addr → Prop} {P : PL} {v : V} {d : D} {ds : List D}
theorem Sp.seq1 (s : Sp K mg Z Hb H ((v, d) :: P)) (hf : isFz d = true) (e : seqD d = some ds) : ∃ a xs, v = .ref a ∧ SqK (kindD d) K H a xs ∧ xs.length = ds.length ∧ isFzs ds = true ∧
    ∀ (i : Nat) (w : V) (dd : D), (∀ ys : List V, SqK (kindD d) K H a ys → ys[i]? = some w) → ds[i]? = some dd → Sp K mg Z Hb H ((w, dd) :: (v, d) :: P) := by
  obtain ⟨Y, F, q⟩ := s.head
  cases d with
  | lst o es =>
    cases e
    have hf' : o = false ∧ isFzs ds = true := by simpa [isFz] using hf
    obtain ⟨rfl, hz⟩ := hf'
    cases q with
    | @lstF a vs _ h z t =>
      refine ⟨a, vs, rfl, SqL.of h, t.len, hz, fun i w dd hw hd => s.part hf fun Y' r' => ?_⟩
      cases r' with
      | @lstF _ vs' _ h' z' t' =>
        obtain ⟨u, e1, e2⟩ := Reps.get t' (i := i) hd
        rw [hw vs' (SqL.of h')] at e1
        cases e1
        exact e2
  | tup es =>
    cases e
    have hz : isFzs ds = true := hf
    cases q with
    | @tup a vs _ _ h t =>
      refine ⟨a, vs, rfl, h, t.len, hz, fun i w dd hw hd => s.part hf fun Y' r' => ?_⟩
      cases r' with
      | @tup _ vs' _ _ h' t' =>
        obtain ⟨u, e1, e2⟩ := Reps.get t' (i := i) hd
        rw [hw vs' h'] at e1
        cases e1
        exact e2
  | scr es =>
    cases e
    have hz : isFzs ds = true := hf
    cases q with
    | @scr a vs _ h t =>
      refine ⟨a, vs, rfl, h.sq, t.len, hz, fun i w dd hw hd => s.part hf fun Y' r' => ?_⟩
      cases r' with
      | @scr _ vs' _ h' t' =>
        obtain ⟨u, e1, e2⟩ := Reps.get t' (i := i) hd
        rw [hw vs' h'.sq] at e1
        cases e1
        exact e2
  | _ => cases e
end
theorem yields_enumK {X : Cx} {Hb : Hp} {a : Addr} {d : D} {ds : List D} (hf : isFz d = true) (e : seqD d = some ds) : Yields X Hb (IteK (kindD d) ds.length X.K a) (enumF 0 ds) [(.ref a, d)] := by
  intro Z H P i s
  have s0 : Sp X.K X.mg Z Hb H ((.ref a, d) :: P) := s
  obtain ⟨a', xs, ea, hx, hl, hz, at_⟩ := s0.seq1 hf e
  cases ea
  rw [enum_len]
  refine ⟨fun hi => ⟨⟨xs, xs[i]'(by omega), hx, hl, by simp [hl, hi]⟩, fun x H' y => ?_⟩, fun hi => ⟨xs, hx, hl, hi⟩⟩
  obtain ⟨T, w, rfl, hT, rfl, hw⟩ := y
  obtain ⟨dd, hd⟩ : ∃ dd, ds[i]? = some dd := ⟨ds[i], by simp [hi]⟩
  refine ⟨.tup [.int (i : Int), dd], ?_, ?_⟩
  · have h := enum_get (k := 0) hd
    rw [Nat.zero_add] at h
    exact h
  · have s1 := at_ i w dd hw hd
    have s2 : Sp X.K X.mg Z Hb H ([V.int (i : Nat), w].zip [D.int (i : Int), dd] ++ ((.ref a, d) :: P)) := s1.put fun _ => .int
    exact s2.newT rfl hT
def iEnum2 (r : ML) : MI := fun δ => match r δ with
  | some ([d], δ1) => match seqD d with
    | some ds => some (enumF 0 (fzs ds), δ1)
    | none => none
  | _ => none
theorem ii_enum2 {X : Cx} {e : Expr} {r : ML} {p pos tpos : Pos} {elts : List Expr} {kk : Nat} (hg : Gl X "enumerate") (hm : X.mg "enumerate" = none) (ha : IL X [e] r) (hs : starEach [e] X.env = [(false, eval e X.env)]) : II X (.Tuple elts kk tpos) (.Call (.Name "enumerate" p) [e] [] pos) (iEnum2 r) := by
  intro Z Hb H σ δ L ds δ' s e' R q
  unfold iEnum2 at e'
  split at e'
  · rename_i d δ1 e1
    split at e'
    · rename_i es e2
      cases e'
      refine wI_of (pi_enumK hg hm pa_w hs) (ha s e1 _ fun vs H1 hl s1 => ?_)
      match vs, hl with
      | [v], _ =>
        have s2 : Sp X.K X.mg Z Hb H1 ((v, d) :: (L ++ prs σ δ')) := s1.sp
        have s3 := s2.freeze
        obtain ⟨a, xs, rfl, hx, hl, hz, _⟩ := s3.seq1 (isFz_fz d) (seqD_fz e2)
        refine ⟨kindD (fz d), a, xs, rfl, hx, ?_⟩
        rw [hl]
        exact q _ _ [(.ref a, fz d)] (yields_enumK (isFz_fz d) (seqD_fz e2)) ⟨s3, s1.dom⟩
    · cases e'
  · cases e'
def iZip2 (r : ML) : MI := fun δ => match r δ with
  | some ([d, e], δ1) => match seqD d, seqD e with
    | some ds, some es => some (zipD (fzs ds) (fzs es), δ1)
    | _, _ => none
  | _ => none
end DL
namespace DL
open PySem.Spec PySem L2 PyProof.Rows
end DL
set_option Elab.async false
set_option linter.all false
set_option maxRecDepth 100000
set_option maxHeartbeats 4000001
namespace DL
open PySem.Spec PySem L2 PyProof.Rows
end DL
set_option Elab.async false
set_option linter.all false
set_option maxRecDepth 100000
set_option maxHeartbeats 4000001
namespace DL
open PySem.Spec PySem L2 PyProof.Rows
section
variable {K : PySem.W.Frag} {mg : Str → Option Value} {c f : Str} {cs : List Str}
theorem gl_cls {a : Addr} (h : mg c = some (.ref a)) : GlD K mg c (.glo c) := ⟨.ref a, .ref a, h, rfl, fun _ _ => .glo h⟩
end
def iAlt (a b : MI) : MI := fun δ => match a δ with
  | some r => some r
  | none => b δ
section
variable {X : Cx} {x : Str} {p pos : Pos} {e : Expr} {es : List Expr} {as : List AS} {k : Nat} {ps : List Str} {m : MF} {dd : List D}
theorem x_enum2 {r : ML} {tpos : Pos} {elts : List Expr} {kk : Nat} (hm : X.mg "enumerate" = none) (ha : IL X [e] r) (hg : Gl X "enumerate" := by rfl) (hs : starEach [e] X.env = [(false, eval e X.env)] := by rfl) : II X (.Tuple elts kk tpos) (.Call (.Name "enumerate" p) [e] [] pos) (iEnum2 r) := ii_enum2 hg hm ha hs
end
section
variable {X : Cx} {P : Nat → Bool} {tg iter elt : Expr} {ifs : List Expr} {body : List Stmt} {mi : MI} {t : MG} {b : MS} {c : MT} {m : ME} {is : List Nat} {pos : Pos} {i : Nat} {mp : MP} {scope : Scope} {own : List (Str × Nat)}
/-- a list, or else the dict at a place -/
theorem x_forA (hpo : PassesOwn (model X.prog X.w) X.A X.env X.xe) (hi : II X tg iter mi) (ho : IP X iter i mp) (ht : IGt X is tg t) (hb : ISs X P body b) (hm : ∀ δ δ', mp δ = mp δ' := by intro _ _; rfl) (hc : X.calm = true := by rfl) (hP : ∀ i ∈ is, P i = false := by decide) (hs : ∀ x, foldedSetIterable iter X.env x = pure x := by intro _; rfl) :
    IS X P (.For tg iter body [] pos) (sFor (iAlt mi (keysAt i mp)) t b) := by
  intro Z Hb H σ δ L fl s e Dn f
  cases h : mi δ with
  | some r => exact is_for hpo hc hi ht hb hP hs s (by simpa [sFor, iAlt, h] using e) Dn f
  | none => exact is_forK hpo hc ho hm ht hb hP hs s (by simpa [sFor, iAlt, h] using e) Dn f
theorem x_lcompA (nd : X.N.Nodup) (hi : II X tg iter mi) (ho : IP X iter i mp) (ok : BlkOk X.N X.env.scope scope own) (ht : ∀ s H C cl fp, IGt (bX X scope s H C cl fp) is tg t) (hc : ∀ s H C cl fp, ITs (bX X scope s H C cl fp) ifs c) (he : ∀ s H C cl fp, IG (bX X scope s H C cl fp) elt m)
    (hm : ∀ δ δ', mp δ = mp δ' := by intro _ _; rfl) (hcl : X.calm = true := by rfl) (hsub : ∀ i ∈ is, i ∈ own.map (·.2) := by decide) (hs : ∀ x, foldedSetIterable iter X.env x = pure x := by intro _; rfl) : IG X (.ListComp elt [⟨tg, iter, ifs, 0⟩] scope pos) (mLc (iAlt mi (keysAt i mp)) (own.map (·.2)) t c m) := by
  intro Z Hb H σ δ L d δ' s e Q q
  cases h : mi δ with
  | some r => exact ig_lc hcl nd hi ok ht hc he hsub hs s (by simpa [mLc, iAlt, h] using e) Q q
  | none => exact ig_lcK hcl nd ho hm ok ht hc he hsub hs s (by simpa [mLc, iAlt, h] using e) Q q
theorem x_setLcA {j : Nat} {y : Str} {py spos : Pos} (nd : X.N.Nodup) (hi : II X tg iter mi) (ho : IP X iter i mp) (ok : BlkOk X.N X.env.scope scope own) (ht : ∀ s H C cl fp, IGt (bX X scope s H C cl fp) is tg t) (hc : ∀ s H C cl fp, ITs (bX X scope s H C cl fp) ifs c) (he : ∀ s H C cl fp, IG (bX X scope s H C cl fp) elt m)
    (hm : ∀ δ δ', mp δ = mp δ' := by intro _ _; rfl) (hP : P j = false := by rfl) (hcl : X.calm = true := by rfl) (hy : X.N[j]? = some y := by rfl) (hyl : X.env.scope.names.lookup y = some .local := by rfl) (hsw : swapsWith (.ListComp elt [⟨tg, iter, ifs, 0⟩] scope pos) (some (.Name y py)) spos.line X.env = pure true := by exact sw_true rfl rfl rfl (by decide))
    (hsub : ∀ i ∈ is, i ∈ own.map (·.2) := by decide) (hs : ∀ x, foldedSetIterable iter X.env x = pure x := by intro _; rfl) : IS X P (.Assign [.Name y py] (.ListComp elt [⟨tg, iter, ifs, 0⟩] scope pos) spos) (sSet j (mLc (iAlt mi (keysAt i mp)) (own.map (·.2)) t c m)) := by
  intro Z Hb H σ δ L fl s e Dn f
  cases h : mi δ with
  | some r => exact is_setLc hP hcl nd hy hyl hsw hi ok ht hc he hsub hs s (by simpa [sSet, mLc, iAlt, h] using e) Dn f
  | none => exact is_setLcK hP hcl nd hy hyl hsw ho hm ok ht hc he hsub hs s (by simpa [sSet, mLc, iAlt, h] using e) Dn f
variable {tg1 iter1 : Expr} {ifs1 : List Expr} {mi1 : MI} {t1 : MG} {c1 : MT} {is1 : List Nat}
end
def bodyOf : Stmt → List Stmt
  | .ClassDef _ _ _ body _ _ _ _ _ _ _ => body
  | _ => []
/-- given up: from here on nobody changes it -/
def mFz (a : ME) : ME := fun δ => match a δ with
  | some (d, δ1) => some (fz d, δ1)
  | none => none
theorem ig_fz {X : Cx} {e : Expr} {a : ME} (h : IG X e a) : IG X e (mFz a) := by
  intro Z Hb H σ δ L d δ' s e' Q q
  unfold mFz at e'
  split at e'
  · rename_i d1 δ1 e1
    cases e'
    exact h s e1 Q fun v H1 s1 => q v H1 ⟨Sp.freeze s1.sp, s1.dom⟩
  · cases e'
end DL
set_option Elab.async false
set_option linter.all false
set_option maxRecDepth 100000
set_option maxHeartbeats 4000001
namespace DL
open PySem.Spec PySem L2 PyProof.Rows
end DL
set_option Elab.async false
set_option linter.all false
set_option maxRecDepth 100000
set_option maxHeartbeats 4000001
namespace DL
open PySem.Spec PySem L2 PyProof.Rows
end DL
set_option Elab.async false
set_option linter.all false
set_option maxRecDepth 100000
set_option maxHeartbeats 4000001
namespace DL
open PySem.Spec PySem L2 PyProof.Rows
def TyAt (X : Cx) (T : String) (x : V) (H : Hp) : Prop := ∀ (pins : List (Addr × Obj)) (σ : L2.St) (s : Shared) (v : Value), Inv X pins σ H s → RelV x v → s.TypeIs v T ∧ ∀ a, v = .ref a → ∃ ob, s.heap.get? a = some ob ∧ ob.dict = none
def tyE (T : String) : D → Bool
  | .tup _ => T == "tuple"
  | .dct _ _ _ => T == "dict"
  | d => tyD T d
section
variable {X : Cx} {o e : Expr} {es : List Expr} {name : Str} {apos cpos : Pos} {T id : String} {g' : D → List D → Option D} {r : ML} {a : ME}
def mMethW (T : String) (g : D → List D → Option D) (a : ME) (r : ML) : ME := fun δ => match a δ with
  | some (d, δ1) => if tyE T d then match r δ1 with
      | some (ds, δ2) => match g d ds with
        | some x => some (x, δ2)
        | none => none
      | none => none
    else none
  | none => none
end
end DL
set_option Elab.async false
set_option linter.all false
set_option maxRecDepth 100000
set_option maxHeartbeats 4000001
namespace DL
open PySem.Spec PySem L2 PyProof.Rows
end DL
set_option Elab.async false
set_option linter.all false
set_option maxRecDepth 100000
set_option maxHeartbeats 4000001
namespace DL
open PySem.Spec PySem L2 PyProof.Rows
theorem PlT.grow {H H' : Hp} {t : Addr} (h : PlT H t) (g : Grows H H') : PlT H' t := let ⟨o, xs, e, d⟩ := h; ⟨o, xs, g _ _ e, d⟩
def mTupL (a : ME) : ME := fun δ => match a δ with
  | some (.lst _ ds, δ1) => some (.tup ds, δ1)
  | _ => none
section
variable {X : Cx} {P : Nat → Bool} {o e : Expr} {i : Nat} {m : MP} {v a : ME} {pos pos' p : Pos}
theorem PlT.ty {H : Hp} {t : Addr} (h : PlT H t) : TyAt X "tuple" (.ref t) H := by
  intro pins σ s u I r
  cases r
  obtain ⟨o, xs, e, d⟩ := h
  obtain ⟨h1, hz, its, r', o', h2, hc, n, hd⟩ := (show ObjOk X.prog X.w H s.heap t (.frz o (.tup xs)) from I.hok t _ e)
  rw [h1] at h2
  cases h2
  exact ⟨⟨o, h1, hc⟩, fun b eb => by cases eb; exact ⟨o, h1, d⟩⟩
end
/-- without effect, if nothing of what comes is shared; else as it stands -/
def purP (m : List Bool) (f : ME) : ME := fun δ => match f (fzE (keepM m δ)) with
  | some (d, _) => if noal d then some (d, δ) else f δ
  | none => none
end DL
set_option Elab.async false
set_option linter.all false
set_option maxRecDepth 100000
set_option maxHeartbeats 4000001
namespace DL
open PySem.Spec PySem L2 PyProof.Rows
end DL
set_option Elab.async false
set_option linter.all false
set_option maxRecDepth 100000
set_option maxHeartbeats 4000001
namespace DLZ
open PySem PySem.Calls PyProof.Rows PyProof.V PySem.Spec PySem.W
/-- a zip whose pair was handed out and is kept -/
abbrev ZipO (h : Heap) (z TI TO a : Addr) (f : Bool) : Prop := h.get? z = some { cls := .type "zip", data := .fields #[rawInt a, .bool f, .bool false, .ref TI, .ref TO] }
end DLZ
set_option Elab.async false
set_option linter.all false
set_option maxRecDepth 100000
set_option maxHeartbeats 4000001
namespace DLZ
open PySem PySem.Calls PyProof.Rows PyProof.V PySem.Spec PySem.W
def ZSt (h : Heap) (z TI TO i1 i2 S : Addr) (i : Nat) : Prop :=
  (IsZip h z TI TO .none ∧ ∃ x y, IsTupOf2 h TO x y) ∨ ∃ a f oa, ZipO h z TI TO a f ∧ h.get? a = some oa ∧ a ≠ z ∧ a ≠ S ∧ a ≠ i1 ∧ a ≠ i2
theorem ZSt.keep {h h' : Heap} {z TI TO i1 i2 S : Addr} {i j : Nat} (x : ZSt h z TI TO i1 i2 S i) (hk : ∀ b o, b ≠ S → h.get? b = some o → h'.get? b = some o) (hz : z ≠ S) (hT : TO ≠ S) : ZSt h' z TI TO i1 i2 S j := by
  rcases x with ⟨h1, x, y, h2⟩ | ⟨a, f, oa, h1, h2, h3, h4, h5, h6⟩
  · exact .inl ⟨hk _ _ hz h1, x, y, hk _ _ hT h2⟩
  · exact .inr ⟨a, f, oa, hk _ _ hz h1, hk _ _ h4 h2, h3, h4, h5, h6⟩
section
variable {prog : Program} {w : World} {A : Around} {s : Shared} {R : Result → Shared → Prop} {z TI TO i1 i2 S : Addr} {fp1 fp2 : List Addr} {n1 n2 : Nat} {P1 P2 : Nat → Value → Prop} {St1 St2 : Nat → Heap → Prop}
/-- the pairs that were made -/
structure ZG (P1 P2 : Nat → Value → Prop) (S : Addr) (h : Heap) (as : List Addr) : Prop where
  rise : as.Pairwise (· < ·)
  above : ∀ a ∈ as, S < a
  pairs : ∀ (j : Nat) (a : Addr), as[j]? = some a → ∃ x y, P1 j x ∧ P2 j y ∧ IsTupOf2 h a x y
namespace ZG
variable {h h' : Heap} {as : List Addr}
theorem lt (g : ZG P1 P2 S h as) : ∀ a ∈ as, a < h.objs.size := fun a m =>
  let ⟨j, e⟩ := List.getElem?_of_mem m
  let ⟨_, _, _, _, t⟩ := g.pairs j a e
  Heap.lt_size t
theorem keep (g : ZG P1 P2 S h as) (k : ∀ b o, S < b → h.get? b = some o → h'.get? b = some o) : ZG P1 P2 S h' as where
  rise := g.rise
  above := g.above
  pairs := fun j a e =>
    let ⟨x, y, p, q, t⟩ := g.pairs j a e
    ⟨x, y, p, q, k a _ (g.above a (List.mem_of_getElem? e)) t⟩
theorem snoc (g : ZG P1 P2 S h as) {n : Addr} {x y : Value} (sn : S < n) (lt : ∀ a ∈ as, a < n) (p : P1 as.length x) (q : P2 as.length y) (t : IsTupOf2 h n x y) : ZG P1 P2 S h (as ++ [n]) where
  rise := by simpa [List.pairwise_append, g.rise] using lt
  above := by
    intro a m
    simp only [List.mem_append, List.mem_singleton] at m
    exact m.elim (g.above a) fun e => e ▸ sn
  pairs := by
    intro j a e
    by_cases l : j < as.length
    · exact g.pairs j a (by rwa [List.getElem?_append_left l] at e)
    · rw [List.getElem?_append_right (Nat.le_of_not_lt l), List.getElem?_singleton] at e
      split at e
      · rename_i z
        injection e with e
        subst e
        obtain rfl : j = as.length := by omega
        exact ⟨x, y, p, q, t⟩
      · exact nomatch e
end ZG
/-- where the loop stands after i pairs: S, the list that grows; what lies below B is as it was in h₀ -/
structure Gather (P1 P2 : Nat → Value → Prop) (St1 St2 : Nat → Heap → Prop) (z TI TO i1 i2 S B : Addr) (h₀ h : Heap) (i : Nat) (c : Nat) (acc : Array Value) (as : List Addr) : Prop where
  zip : ZSt h z TI TO i1 i2 S i
  ti : IsTupOf2 h TI (.ref i1) (.ref i2)
  one : St1 i h
  two : St2 i h
  low : ∀ b o, b < B → h₀.get? b = some o → h.get? b = some o
  at_ : h.get? S = some { cls := .type "list", data := .seq acc c }
  accs : acc.toList = as.map Value.ref
  len : as.length = i
  made : ZG P1 P2 S h as
/-- the places of the zip's parts -/
structure Low (z TI TO i1 i2 S B : Addr) (fp1 fp2 : List Addr) : Prop where
  z : B ≤ z ∧ z < S
  ti : TI < S
  to : B ≤ TO ∧ TO < S
  i1 : B ≤ i1 ∧ i1 < S
  i2 : B ≤ i2 ∧ i2 < S
  f1 : S ∉ fp1
  f2 : S ∉ fp2
section
variable {h₀ h h' : Heap} {i c : Nat} {acc : Array Value} {as : List Addr} {B : Addr}
/-- what a turn leaves alone, for addresses on S's side and on B's -/
theorem Low.off (L : Low z TI TO i1 i2 S B fp1 fp2) {b : Addr} (hb : b < B ∨ S ≤ b) : b ≠ z ∧ b ≠ TO ∧ b ≠ i1 ∧ b ≠ i2 := by
  have ⟨⟨a1, a2⟩, _, ⟨b1, b2⟩, ⟨c1, c2⟩, ⟨d1, d2⟩, _, _⟩ := L
  refine ⟨?_, ?_, ?_, ?_⟩ <;> rintro rfl <;> rcases hb with hb | hb
  all_goals first
    | exact Nat.lt_irrefl _ (Nat.lt_of_lt_of_le hb (by assumption))
    | exact Nat.lt_irrefl _ (Nat.lt_of_lt_of_le (by assumption) hb)
theorem Gather.push (g : Gather P1 P2 St1 St2 z TI TO i1 i2 S B h₀ h i c acc as) (L : Low z TI TO i1 i2 S B fp1 fp2) (Z : ZipSep2 z TI TO i1 i2 fp1 fp2) (D1 : Draws prog w A i1 fp1 n1 P1 St1) (D2 : Draws prog w A i2 fp2 n2 P2 St2)
    {x y : Value} (p : P1 i x) (q : P2 i y) (zip : ZSt h' z TI TO i1 i2 S (i + 1)) (one : St1 (i + 1) h') (two : St2 (i + 1) h') (t : IsTupOf2 h' h.objs.size x y)
    (k : ∀ c o, c ≠ z → c ≠ TO → c ≠ i1 → c ≠ i2 → h.get? c = some o → h'.get? c = some o) :
    ∃ c', Gather P1 P2 St1 St2 z TI TO i1 i2 S B h₀ (h'.update S (Obj.mapSeq (·.push (Value.ref h.objs.size)))) (i + 1) c' (acc.push (Value.ref h.objs.size)) (as ++ [h.objs.size]) := by
  have sn : S < h.objs.size := Heap.lt_size g.at_
  have kk : ∀ b o, b < B ∨ S ≤ b → h.get? b = some o → h'.get? b = some o := fun b o hb e =>
    let ⟨q1, q2, q3, q4⟩ := L.off hb
    k b o q1 q2 q3 q4 e
  have up : ∀ b o, b ≠ S → h'.get? b = some o → (h'.update S (Obj.mapSeq (·.push (Value.ref h.objs.size)))).get? b = some o := fun b o ne e => by
    rw [Heap.get?_update_other _ _ ne.symm, e]
  have bS : B ≤ S := Nat.le_of_lt (Nat.lt_of_le_of_lt L.z.1 L.z.2)
  exact ⟨_, {
    zip := zip.keep up (Nat.ne_of_lt L.z.2) (Nat.ne_of_lt L.to.2)
    ti := up _ _ (Nat.ne_of_lt L.ti) (k TI _ Z.TIz Z.TITO Z.TIi1 Z.TIi2 g.ti)
    one := D1.frame _ _ _ one fun b m o => up b o fun e => L.f1 (e ▸ m)
    two := D2.frame _ _ _ two fun b m o => up b o fun e => L.f2 (e ▸ m)
    low := fun b o hb e => up b o (Nat.ne_of_lt (Nat.lt_of_lt_of_le hb bS)) (kk b o (.inl hb) (g.low b o hb e))
    at_ := Heap.get?_update_self _ (kk S _ (.inr (Nat.le_refl _)) g.at_) rfl
    accs := by simp [g.accs]
    len := by simp [g.len]
    made := (g.made.keep fun b o hb e => up b o (Nat.ne_of_gt hb) (kk b o (.inr (Nat.le_of_lt hb)) e)).snoc sn g.made.lt (g.len.symm ▸ p) (g.len.symm ▸ q) (up _ _ (Nat.ne_of_gt sn) t) }⟩
end
end
end DLZ
set_option Elab.async false
set_option linter.all false
set_option maxRecDepth 100000
set_option maxHeartbeats 4000001
namespace DL
open PySem PySem.Spec PyProof.Rows L2 DLZ
end DL
set_option Elab.async false
set_option linter.all false
set_option maxRecDepth 100000
set_option maxHeartbeats 4000001
namespace DL
open PySem PySem.Spec PyProof.Rows L2 DLZ
def mListZip (r : ML) : ME := fun δ => match r δ with
  | some ([d, e], δ1) => match seqD d, seqD e with
    | some ds, some es => if min ds.length es.length ≤ sizeLine then some (.lst true (zipD (fzs ds) (fzs es)), δ1) else none
    | _, _ => none
  | _ => none
end DL
set_option Elab.async false
set_option linter.all false
set_option maxRecDepth 100000
set_option maxHeartbeats 4000001
namespace DL
open PySem.Spec PySem L2 PyProof.Rows
end DL
set_option Elab.async false
set_option linter.all false
set_option maxRecDepth 100000
set_option maxHeartbeats 4000001
namespace DL
open PySem.Spec PySem L2 PyProof.Rows
end DL
set_option Elab.async false
set_option linter.all false
set_option maxRecDepth 100000
set_option maxHeartbeats 4000001
namespace DL
open PySem.Spec PySem L2 PyProof.Rows LamX
end DL
set_option Elab.async false
set_option linter.all false
set_option maxRecDepth 100000
set_option maxHeartbeats 4000001
namespace DL
open PySem.Spec PySem L2 PyProof.Rows
/-- an exception of the class c, its attributes -/
structure Ex where
  c : Str
  ns : List Str
  ds : List D
abbrev MX := DL.Env → Option Ex
/-- the weakest wish of a context -/
def Wx (X : Cx) : WX := fun cls d σ H => ∀ (s' : Shared) (a : Addr) (B : Heap) (sI : Shared) (pins : List (Addr × Obj)), Inv X pins σ H sI → (∀ b o, sI.heap.get? b = some o → b ∉ frs X.stack → B.get? b = some o) → sI.heap.UpToSlots s'.heap →
  Sky B X.stack a (Zc cls d) X.env.locals s'.heap → H a = none → s'.os = sI.os → AllBare s'.gens → X.xe (.ref a) s'
theorem takes_wx {X : Cx} : Takes X (Wx X) := fun u s' z => by
  obtain ⟨a, B, sI, pins, σ, H, cls, d, e, I, nb, up, sky, na, os, ag, w⟩ := z
  rw [e]
  exact w s' a B sI pins I nb up sky na os ag
/-- what is known where it is raised; L stands as it stood -/
def EOk (K : PySem.W.Frag) (mg : Str → Option Value) (Z : Addr → Prop) (Hb H : Hp) (L : PL) (ex : Ex) (cls : Value) (d : Option Addr) : Prop :=
  ∃ C, cls = .ref C ∧ mg ex.c = some (.ref C) ∧ ((d = none ∧ ex.ns = [] ∧ ex.ds = [] ∧ Sp K mg Z Hb H L) ∨
    ∃ (dd : Addr) (vs : List V), d = some dd ∧ ex.ns ≠ [] ∧ vs.length = ex.ns.length ∧ ex.ds.length = ex.ns.length ∧ isFzs ex.ds = true ∧ Sp K mg Z Hb H ((.ref dd, .raw true (.xd (ex.ns.zip vs))) :: (vs.zip ex.ds ++ L)))
theorem EOk.imp {K : PySem.W.Frag} {mg : Str → Option Value} {Z Z' : Addr → Prop} {Hb Hb' H : Hp} {L L' : PL} {ex : Ex} {cls : Value} {d : Option Addr} (h : EOk K mg Z Hb H L ex cls d) (k : ∀ P, Sp K mg Z Hb H (P ++ L) → Sp K mg Z' Hb' H (P ++ L')) : EOk K mg Z' Hb' H L' ex cls d := by
  obtain ⟨C, e1, e2, ⟨e3, e4, e5, s⟩ | ⟨dd, vs, e3, e0, e4, e5, e6, s⟩⟩ := h
  · exact ⟨C, e1, e2, .inl ⟨e3, e4, e5, k [] s⟩⟩
  · exact ⟨C, e1, e2, .inr ⟨dd, vs, e3, e0, e4, e5, e6, k ((.ref dd, .raw true (.xd (ex.ns.zip vs))) :: vs.zip ex.ds) s⟩⟩
theorem EOk.dropL {K : PySem.W.Frag} {mg : Str → Option Value} {Z : Addr → Prop} {Hb H : Hp} {A L : PL} {ex : Ex} {cls : Value} {d : Option Addr} (h : EOk K mg Z Hb H (A ++ L) ex cls d) : EOk K mg Z Hb H L ex cls d := h.imp fun P s => by
  refine Sp.dropL (L := A) (s.perm ?_)
  exact List.perm_append_comm_assoc _ _ _
theorem EOk.nil {K : PySem.W.Frag} {mg : Str → Option Value} {Z : Addr → Prop} {Hb H : Hp} {L : PL} {ex : Ex} {cls : Value} {d : Option Addr} (h : EOk K mg Z Hb H L ex cls d) : EOk K mg Z Hb H [] ex cls d := EOk.dropL (A := L) (by rw [List.append_nil]; exact h)
structure FnX (P : Program) (w : World) (K : PySem.W.Frag) (mg : Str → Option Value) (base : Heap) (k : Nat) (f : Addr) (fd : FuncData) (ps : List Str) (sp : L2.Sp) : Prop where
  len : ∀ (vs : List V) (H : Hp) (Q : VK) (E : XK), sp vs H Q E → vs.length = ps.length
  run : ∀ (A : Around) (outer : List PySem.Env) (s : Shared) (H : Hp) (args : Args) (us : List Value) (vs : List V) (Q : VK) (E : XK), Room k A → A.guards = some [] →
    Env0 P w K mg base A outer s H → BindsTo s fd args (ps.zip us) → Vals vs us → sp vs H Q E → codeAny (model P w) A (.call (.ref f) args) (CR (L2.CX P w) outer P w H s Q E) s
theorem FnX.mono {P : Program} {w : World} {K : PySem.W.Frag} {mg : Str → Option Value} {base : Heap} {j k : Nat} {f : Addr} {fd : FuncData} {ps : List Str} {sp : L2.Sp} (F : FnX P w K mg base j f fd ps sp) (h : j ≤ k) : FnX P w K mg base k f fd ps sp :=
  ⟨F.len, fun A outer s H args us vs Q E hr => F.run A outer s H args us vs Q E (hr.mono h)⟩
section
variable {P : Program} {w : World} {K : PySem.W.Frag} {mg : Str → Option Value} {base : Heap} {k : Nat} {f : Addr} {x qual : Str} {params : Arguments} {body : List Stmt} {scope : Scope} {dvs : List V} {kws : List (Str × V)} {fd : FuncData} {N ps : List Str} {sp : L2.Sp} {Pr : Nat → Bool} {mb : MS} {xb : MX}
theorem FnX.of (F : FunD K x qual params body scope dvs kws f fd) (S : FnScope N ps scope) (len : ∀ vs H Q E, sp vs H Q E → vs.length = ps.length)
    (hb : ∀ (cdv : Value) (A : Around) (outer : List PySem.Env) (s : Shared) (H : Hp) (vs : List V) (Q : VK) (E : XK), Room k (A.deeper (envOfC qual scope s.heap.objs.size f cdv)) → (A.deeper (envOfC qual scope s.heap.objs.size f cdv)).guards = some [] → sp vs H Q E →
      wSs (cxOf (L2.CX P w) P w K mg base N qual scope f cdv A outer s H E) body { nx := fun _ H' => Q .non H', rt := Q } (start N vs) H) : FnX P w K mg base (k + 1) f fd ps sp := by
  obtain ⟨oc, od, dV, kV, doc, pm, an, cdv, ct, osl, rfl, lk, hcd, _, _⟩ := F.ex
  refine ⟨len, fun A outer s H args us vs Q E hr hg e0 hbi rv hsp => ?_⟩
  have inK : K.In s.heap := e0.mod.kin.keeps fun b o e => (e0.bs b o e).1
  have noL : s.heap.NoLimit := e0.mod.nolimit.keeps fun b o e => (e0.bs b o e).1
  have kinds : ∀ y ∈ ps.zip us, scope.names.lookup y.1 = some .local ∨ (scope.names.lookup y.1 = some .cell ∧ ((cellsFrom (s.heap.objs.size + 1) scope.names []).lookup y.1).isSome = true) := by
    rintro ⟨n, v⟩ hy
    exact (S.par n (List.of_mem_zip hy).1).imp id fun q => ⟨q, PySem.W.cellsFrom_some _ _ _ (.inl q)⟩
  have bnd := hbi
  refine codeAny_call_function hr.depth (inK _ _ lk) rfl S.co S.gen rfl (PySem.W.codeRec_of inK hcd) (bnd _ _ _ _ ?_)
  refine wpAny_newFunctionEnv_cells S.kind kinds fun env he s1 x1 => ?_
  subst he
  refine ⟨noL.keeps x1.toInCall.keep, codeAny_func ?_⟩
  have I : Inv (cxOf (L2.CX P w) P w K mg base N qual scope f cdv A outer s H E) [] (start N vs) H s1 := inv_start S hr.hd e0 (len _ _ _ _ hsp) rv x1
  have run := hb cdv A outer s H vs Q E (hr.deeper _) hg hsp
  refine wpAny_mono (run [] s1 I) (fun fl s' hs => ?_) fun e s' hs => hs
  have fin : ∀ {σ' : L2.St} {H' : Hp} {v : V} {u : Value}, Inv (cxOf (L2.CX P w) P w K mg base N qual scope f cdv A outer s H E) [] σ' H' s' → RelV v u → Q v H' → CE outer P w H s Q u s' :=
    fun {σ' H' v u} J r q => ⟨v, H', J.os, J.bare, J.base, J.hok, r, q⟩
  match fl, hs with
  | .ret u, ⟨v, σ', H', J, r, q⟩ => exact fin J r q
  | .next, ⟨σ', H', J, q⟩ => exact fin (v := V.non) (u := Value.none) J rfl q
  | .brk, ⟨_, _, _, q⟩ => exact q.elim
  | .cont, ⟨_, _, _, q⟩ => exact q.elim
end
end DL
set_option Elab.async false
set_option linter.all false
set_option maxRecDepth 100000
set_option maxHeartbeats 4000001
namespace DL
open PySem.Spec PySem L2 PyProof.Rows
section
variable {X : Cx} {k : Nat} {f : Addr} {fd : FuncData} {ps ks : List Str} {n : Nat} {m : MF} {xm : List D → Option Ex} {x : Str} {p pos : Pos} {e : Expr} {es : List Expr} {kws : List Keyword} {as bs : List AS} {ord inv : List Nat} {sp : L2.Sp}
theorem FnX.go (F : FnX X.prog X.w X.K X.mg X.base k f fd ps sp) (hr : Room k X.A) (hg : X.A.guards = some []) {pins : List (Addr × Obj)} {σ : L2.St} {H : Hp} {s : Shared} {Q : VK} {us : List Value} {vs : List V} {args : Args} (I : Inv X pins σ H s) (hb : BindsTo s fd args (ps.zip us)) (rv : Vals vs us) (h : sp vs H Q (WE (Wx X) σ)) :
    wpAny (model X.prog X.w) X.A (PySem.call (.ref f) args.pos args.kw) (EP X pins σ Q) X.xe s := by
  refine wpAny_call (codeAny_mono (F.run X.A X.stack s H args us vs Q (WE (Wx X) σ) hr hg I.env0 hb rv h) fun r s' hq => ?_)
  match r, hq with
  | .ok (.ret u), hq => exact I.after hq
  | .error e, hq => exact passAt takes_wx σ pins H s e s' I hq
end
end DL
set_option Elab.async false
set_option linter.all false
set_option maxRecDepth 100000
set_option maxHeartbeats 4000001
namespace DL
open PySem.Spec PySem L2 PyProof.Rows LamX
end DL
set_option Elab.async false
set_option linter.all false
set_option maxRecDepth 100000
set_option maxHeartbeats 4000001
namespace DL
open PySem.Spec PySem L2 PyProof.Rows LamX
theorem Sp.exc0 {K : PySem.W.Frag} {mg : Str → Option Value} {H Hb : Hp} {Z : Addr → Prop} {P : PL} {a C : Addr} {c : Str} (s : Sp K mg Z Hb H P) (ha : H a = none) (hc : mg c = some (.ref C)) : Sp K mg Z Hb (upd H a (ExV (.ref C) none a)) ((.ref a, .exc c [] []) :: P) := by
  have s1 : Sp K mg Z Hb (upd H a (ExV (.ref C) none a)) ((.ref a, .raw true (ExV (.ref C) none a)) :: P) := Sp.new (Q := []) s ha fun Y F r => by
    cases r
    exact ⟨[a], .rawO upd_same rfl trivial, .inr rfl⟩
  have s2 : Sp K mg Z Hb (upd H a (ExV (.ref C) none a)) ((.ref a, .raw false (ExV (.ref C) none a)) :: P) := s1.freeze
  have s3 := s2.part (w := .ref a) (t := .exc c [] []) rfl fun Y r => by
    cases r with
    | rawF h p z m => exact .exc (fs := []) upd_same z hc (.inl ⟨rfl, rfl⟩) rfl .nil
  exact (s3.perm (List.Perm.swap _ _ _)).drop
end DL
set_option Elab.async false
set_option linter.all false
set_option maxRecDepth 100000
set_option maxHeartbeats 4000001
namespace DL
open PySem.Spec PySem L2 PyProof.Rows
def BMv : List Value := [.type "ValueError", .type "Exception", .type "BaseException", .type "object"]
def excOneB (K : PySem.W.Frag) (C : Addr) : Bool := PySem.W.excIn K C BMv "ValueError.__new__" && (PySem.W.keepIn K (.ref C) && (decide (PySem.W.subIn K (.ref C) (.type "BaseException") = some true) && (decide (PySem.W.typeIn K (.ref C) = some (.type "type")) &&
  (decide (PySem.W.findIn K (.ref C) "__getattribute__" = some (some (.builtin "BaseException.__getattribute__"))) && (decide (PySem.W.findIn K (.ref C) "__getattr__" = some none) && (PySem.W.hasDictIn K C && (decide (PySem.W.findIn K (.ref C) "__class__" = some (some (.builtin "object.__class__"))) &&
  (decide (PySem.W.specialIn K (.builtin "object.__class__") "__get__" = some (some (.builtin "getset_descriptor.__get__"))) && (decide (PySem.W.takesIn K (.builtin "object.__class__") = some true) && (decide (PySem.W.mroIn K C (.type "object") = some true) && Tns.all fun T => decide (PySem.W.kitOne K (.type T) (.ref C) = some false)))))))))))
structure ExOne (K : PySem.W.Frag) (C : Addr) : Prop where
  ei : PySem.W.excIn K C BMv "ValueError.__new__" = true
  kp : PySem.W.keepIn K (Value.ref C) = true
  sb : PySem.W.subIn K (.ref C) (.type "BaseException") = some true
  ty : PySem.W.typeIn K (.ref C) = some (.type "type")
  ec : ExcC K C
  tn : ∀ T ∈ Tns, PySem.W.kitOne K (.type T) (.ref C) = some false
theorem exOne_of {K : PySem.W.Frag} {C : Addr} (h : excOneB K C = true) : ExOne K C := by
  unfold excOneB at h
  simp only [decide_eq_true_eq, Bool.and_eq_true] at h
  obtain ⟨h1, h2, h3, h4, h5, h6, h7, h8, h9, h10, h11, h12⟩ := h
  exact ⟨h1, h2, h3, h4, ⟨h5, h6, h3, h7, h8, h9, h10, h11⟩, fun T hT => of_decide_eq_true (List.all_eq_true.mp h12 T hT)⟩
end DL
set_option Elab.async false
set_option linter.all false
set_option maxRecDepth 100000
set_option maxHeartbeats 4000001
namespace DL
open PySem.Spec PySem L2 PyProof.Rows LamX
end DL
set_option Elab.async false
set_option linter.all false
set_option maxRecDepth 100000
set_option maxHeartbeats 4000001
namespace DL
open PySem.Spec PySem L2 PyProof.Rows LamX
/-- the tracked heap at the law's door: the table at T, the script at a where the head does not hold it -/
def doorH (K : PySem.W.Frag) (T a : Addr) (oA : Obj) (xs : List V) : Hp := fun b =>
  if b = T then some (.tbl #[]) else if b = a then (if (K.lookup a).isNone then some (.frz oA (.lst xs)) else none) else none
section
variable {K : PySem.W.Frag} {T a : Addr} {oA : Obj} {xs : List V}
theorem door_T : doorH K T a oA xs T = some (.tbl #[]) := by simp [doorH]
theorem door_no {b : Addr} (h1 : b ≠ T) (h2 : b = a → K.lookup a ≠ none) : doorH K T a oA xs b = none := by
  unfold doorH
  rw [if_neg h1]
  split
  · rename_i e
    have h3 := h2 e
    cases hk : K.lookup a
    · exact absurd hk h3
    · simp
  · rfl
theorem door_cases (b : Addr) : (b = T ∧ doorH K T a oA xs b = some (.tbl #[])) ∨ (b ≠ T ∧ b = a ∧ K.lookup a = none ∧ doorH K T a oA xs b = some (.frz oA (.lst xs))) ∨ (b ≠ T ∧ (b = a → K.lookup a ≠ none) ∧ doorH K T a oA xs b = none) := by
  by_cases h1 : b = T
  · left; refine ⟨h1, ?_⟩; subst h1; exact door_T
  · right
    by_cases h2 : b = a ∧ K.lookup a = none
    · left; refine ⟨h1, h2.1, h2.2, ?_⟩; simp [doorH, h1, h2.1, h2.2, show ¬ a = T by rw [← h2.1]; exact h1]
    · right; exact ⟨h1, fun e z => h2 ⟨e, z⟩, door_no h1 fun e z => h2 ⟨e, z⟩⟩
end
/-- what the heap at the law's door is known to hold -/
structure Door (K : PySem.W.Frag) (h : Heap) (T a : Addr) (oA : Obj) : Prop where
  kin : K.In h
  tab : h.get? T = some { cls := .none, data := .fields #[] }
  out : K.lookup T = none
  scr : h.get? a = some oA
namespace Door
variable {K : PySem.W.Frag} {h : Heap} {T a : Addr} {oA : Obj} {xs : List V}
/-- what is neither the table nor the script is seen beyond the hiding -/
theorem see (d : Door K h T a oA) {b : Addr} {o : Obj} (e : h.get? b = some o) (h1 : o.data ≠ .fields #[]) (h2 : o.data ≠ oA.data) : (hidT h (doorH K T a oA xs)).get? b = some o := by
  refine hidT_get e (door_no ?_ ?_)
  · rintro rfl; rw [d.tab] at e; injection e with q; exact h1 (by rw [← q])
  · rintro rfl; rw [d.scr] at e; injection e with q; exact absurd (by rw [← q]) h2
theorem ns (d : Door K h T a oA) (hs : ∃ vs n, oA.data = .seq vs n) {b : Addr} {m : Str → Option Value} (n : h.Ns b m) : (hidT h (doorH K T a oA xs)).Ns b m := by
  have ⟨o, es, ep, e, dd, r⟩ := n
  exact ⟨o, es, ep, d.see e (by rw [dd]; simp) (by rw [dd]; rcases hs with ⟨vs, n0, q⟩; rw [q]; simp), dd, r⟩
end Door
namespace Door
variable {K : PySem.W.Frag} {h : Heap} {T a c : Addr} {oA : Obj} {xs : List V} {mg : Str → Option Value}
/-- what the call leaves of the heap -/
theorem old {h' : Heap} {P : Program} {w : World} {H' : Hp} (d : Door K h T a oA) (C : PySem.W.CodeHd h c T) (un : Un [] [] (doorH K T a oA xs) H' h h') (ok' : HOk P w H' h') : OldK h h' := by
  have stays : ∀ b o, b ≠ T → h.get? b = some o → h'.get? b = some o := by
    intro b o hb e
    rcases door_cases (K := K) (T := T) (a := a) (oA := oA) (xs := xs) b with z | ⟨_, e2, _, e4⟩ | z
    · exact absurd z.1 hb
    · have q := (ok' b _ (un.frzs b _ _ e4)).1
      rw [e2, d.scr] at e
      rw [q, ← e]
    · exact un.keep b o e z.2.2 (List.not_mem_nil) (List.not_mem_nil)
  obtain ⟨m, em⟩ := un.tbls T _ door_T
  have at' : h'.get? T = some { cls := .none, data := .fields (#[] ++ m) } := ok' T _ em
  constructor
  · intro b o e
    by_cases hb : b = T
    · subst hb
      rw [d.tab] at e
      injection e with q
      subst q
      exact .inr (.inl ⟨(C.tab d.tab).isCodeTable, rfl, _, m, rfl, at'⟩)
    · exact .inl (stays b o hb e)
  · intro b o e
    by_cases hb : b = T
    · exact ⟨_, hb ▸ at'⟩
    · exact ⟨o, stays b o hb e⟩
end Door
end DL
set_option Elab.async false
set_option linter.all false
set_option maxRecDepth 100000
set_option maxHeartbeats 4000001
namespace DL
open PySem.Spec PySem L2 PyProof.Rows LamX
end DL
set_option Elab.async false
set_option linter.all false
set_option maxRecDepth 100000
set_option maxHeartbeats 4000001
namespace DL
open PySem.Spec PySem L2 PyProof.Rows
/-- the base's own __init__, the new exception ahead of the arguments -/
theorem init_base {X : Cx} {pins : List (Addr × Obj)} {σ : L2.St} {Q : VK} {us : List Value} {s1 : Shared} (z : ∃ vs H1, Inv X pins σ H1 s1 ∧ Vals vs us ∧ ∃ a C ws, vs = .ref a :: ws ∧ ws.length ≤ 1000 ∧ OexC X.K C ∧ H1 a = some (exo a C none) ∧ Q .non H1) :
    wpAny (model X.prog X.w) X.A (call (.builtin "ValueError.__init__") us) (EP X pins σ Q) X.xe s1 := by
  obtain ⟨_, H1, I1, r, a, C, ws, rfl, l, T, ea, q⟩ := z
  rcases r with _ | ⟨rfl, r⟩
  exact oinit_ok T I1 ea (by rw [← Paired.length r]; exact Nat.le_trans l (by decide +kernel)) fun t J => ⟨.non, H1, J, rfl, q⟩
/-- B.__init__(self, ..), B an own class without an __init__ of its own -/
theorem pe_beinit {X : Cx} {x : Str} {B : Addr} {e : Expr} {es : List Expr} {ta : TA} {p1 p2 pos : Pos} {pl : Sem Bool} (hg : Gl X x) (hm : X.mg x = some (.ref B)) (hga : PySem.W.specialIn X.K (.ref B) "__getattribute__" = some (some (.builtin "type.__getattribute__")))
    (vB : PySem.W.findCls X.K (.ref B) (.type "type") "__init__" = some (.val (.builtin "ValueError.__init__"))) (tB : PySem.W.typeIn X.K (.ref B) = some (.type "type")) (rB : PySem.W.readsIn X.K B (.type "type") = true) (ha : PA X (e :: es) ta) (hdb : (x == ("__debug__" : Str)) = false)
    (hc : eval (.Call (.Attribute (.Name x p1) "__init__" p2) (e :: es) [] pos) X.env = (do
      let ov ← eval (.Name x p1) X.env
      standAt p2.atName
      let (f, first) ← holding [ov] (getMethod ov "__init__" pl)
      callWith pos f first (backTo pos (starEach (e :: es) X.env)) (backToKw pos (keywordEach [] X.env))))
    (he : starEach (e :: es) X.env = (false, eval e X.env) :: starEach es X.env) (hpl : (backTo pos (starEach es X.env)).any (·.1) = false) :
    PE X (.Call (.Attribute (.Name x p1) "__init__" p2) (e :: es) [] pos) (tVeI X.K ta) := by
  constructor
  intro pins s σ H Q I h
  obtain ⟨m, fr⟩ := I.fr
  have rest : ∀ us s1, (∃ vs H1, Inv X pins σ H1 s1 ∧ Vals vs us ∧ _) → _ := fun us s1 z => init_base (Q := Q) z
  apply PySem.W.methodCall_KW _ hc
  apply ld_glob I hg hm _ hdb
  apply PySem.W.method_of_cls fr I.ok.mod.kin hga
  apply PySem.W.cls_val fr I.ok.mod.kin tB rB vB (by decide +kernel)
  apply PyProof.Rows.callWith_method1 _ he hpl
  exact wpAny_mono (ha.run pos pins _ σ H _ (I.tok _) h) rest fun _ _ z => z
/-- what the written part says of the class above -/
structure BasC (K : PySem.W.Frag) (mg : Str → Option Value) (x : Str) (B : Addr) : Prop where
  m : mg x = some (.ref B)
  g : PySem.W.specialIn K (.ref B) "__getattribute__" = some (some (.builtin "type.__getattribute__"))
  v : PySem.W.findCls K (.ref B) (.type "type") "__init__" = some (.val (.builtin "ValueError.__init__"))
  t : PySem.W.typeIn K (.ref B) = some (.type "type")
  r : PySem.W.readsIn K B (.type "type") = true
/-- __init__(self, g): B.__init__(self, '..'); self.f = g -/
def spI (C : Addr) (f : Str) : L2.Sp := fun vs H Q _ => ∃ a v, vs = [.ref a, v] ∧ H a = some (exo a C none) ∧ ∀ d, H d = none → d ≠ a → Q .non (upd (upd H d (exd d [(f, v)])) a (exo a C (some d)))
theorem init1_ok {CX : CXT} {P : Program} {w : World} {K : PySem.W.Frag} {mg : Str → Option Value} {base : Heap} {k : Nat} {fI C B : Addr} {qual : Str} {params : Arguments} {scope : Scope} {kws : List (Str × V)} {fd : FuncData} {x f g z self : Str} {j : Nat} {p1 p2 p3 p4 p5 p6 p7 p8 p9 p10 : Pos}
    (F : FunD K "__init__" qual params [.Expr (.Call (.Attribute (.Name x p1) "__init__" p2) [.Name self p3, .Constant (.str z) j p4] [] p5) p6, .Assign [.Attribute (.Name self p7) f p8] (.Name g p9) p10] scope [] kws fI fd) (S : FnScope [self, g] [self, g] scope)
    (Bc : BasC K mg x B) (T : OexC K C) (hf : PySem.W.findIn K (.ref C) f = some none) (hg : scope.names.lookup x = some .globalImplicit) (h1 : scope.names.lookup self = some .local) (h2 : scope.names.lookup g = some .local)
    (hd : (x == ("__debug__" : Str)) = false) (d1 : (self == ("__debug__" : Str)) = false) (d2 : (self == ("__classdict__" : Str)) = false) (d3 : (g == ("__debug__" : Str)) = false) (d4 : (g == ("__classdict__" : Str)) = false)
    (hc : ∀ env : PySem.Env, ∃ pl : Sem Bool, eval (.Call (.Attribute (.Name x p1) "__init__" p2) [.Name self p3, .Constant (.str z) j p4] [] p5) env = (do
      let ov ← eval (.Name x p1) env
      standAt p2.atName
      let (f, first) ← holding [ov] (getMethod ov "__init__" pl)
      callWith p5 f first (backTo p5 (starEach [.Name self p3, .Constant (.str z) j p4] env)) (backToKw p5 (keywordEach [] env))))
    (hs : ∀ env : PySem.Env, swapsWith (.Name g p9) (some (.Attribute (.Name self p7) f p8)) p10.line env = pure false)
    (hs2 : ∀ env : PySem.Env, swapsWith (.Call (.Attribute (.Name x p1) "__init__" p2) [.Name self p3, .Constant (.str z) j p4] [] p5) none p6.line env = pure false) : FnOk P w K mg base CX (k + 1) fI fd [self, g] (spI C f) := by
  refine F.ok (N := [self, g]) S (fun vs H Q E h => by obtain ⟨a, v, rfl, _⟩ := h; rfl) fun cdv A outer s H vs Q E hr ⟨a, v, ev, ea, q⟩ => ?_
  subst ev
  obtain ⟨pl, hpl⟩ := hc (cxOf CX P w K mg base [self, g] qual scope fI cdv A outer s H E).env
  have eB := pe_beinit (X := cxOf CX P w K mg base [self, g] qual scope fI cdv A outer s H E) (x := x) (B := B) (e := .Name self p3) (es := [.Constant (.str z) j p4]) (p1 := p1) (p2 := p2) (pos := p5) (pl := pl) hg Bc.m Bc.g Bc.v Bc.t Bc.r (pa_cons (pe_var (i := 0) rfl (.inl h1) d1 d2) (pa_cons pe_str pa_nil)) hd hpl rfl rfl
  refine ⟨_, pss_cons (ps_expr eB (hs2 _)) (pss_one (ps_ost (pe_var (i := 0) rfl (.inl h1) d1 d2) (pe_var (i := 1) rfl (.inl h2) d3 d4) (hs _))), ?_⟩
  refine ⟨.ref a, rfl, a, C, [.str z], rfl, (show 1 ≤ 1000 by decide), T, ea, ?_⟩
  exact ⟨v, rfl, .ref a, rfl, a, C, rfl, T, hf, .inl ⟨ea, fun dx n ne => q dx n ne⟩⟩
theorem heap_mk {H1 : Hp} {a d C : Addr} {f : Str} {v : V} (ha : H1 a = none) (hne : d ≠ a) : upd (del (upd (upd (upd H1 a (exo a C none)) d (exd d [(f, v)])) a (exo a C (some d))) a) d (.xd [(f, v)]) = upd H1 d (.xd [(f, v)]) := by
  funext b
  by_cases hb : b = d
  · subst hb
    rw [upd_same, upd_same]
  · rw [upd_ne hb, upd_ne hb]
    by_cases hba : b = a
    · subst hba
      rw [del_same, ha]
    · rw [del_ne hba, upd_ne hba, upd_ne hb, upd_ne hba]
theorem Sp.excF {K : PySem.W.Frag} {mg : Str → Option Value} {H Hb : Hp} {Z : Addr → Prop} {P : PL} {a C dd : Addr} {c : Str} {ns : List Str} {vs : List V} {ds : List D} (s : Sp K mg Z Hb H ((.ref dd, .raw true (.xd (ns.zip vs))) :: (vs.zip ds ++ P))) (ha : H a = none) (hc : mg c = some (.ref C)) (hne : ns ≠ []) (hl : vs.length = ns.length) (hd : ds.length = ns.length) (hf : isFzs ds = true) :
    Sp K mg Z Hb (upd H a (ExV (.ref C) (some dd) a)) ((.ref a, .exc c ns ds) :: P) := by
  have hdd : H dd = some (.xd (ns.zip vs)) := by
    obtain ⟨Y, F, r⟩ := s.head
    cases r with
    | rawO h _ _ => exact h
  have nda : dd ≠ a := fun e => by rw [e, ha] at hdd; cases hdd
  have hdd2 : upd H a (ExV (.ref C) (some dd) a) dd = some (.xd (ns.zip vs)) := by rw [upd_ne nda]; exact hdd
  have s1 : Sp K mg Z Hb H ((.ref dd, .raw false (.xd (ns.zip vs))) :: (vs.zip ds ++ P)) := s.freeze
  have s2 : Sp K mg Z Hb (upd H a (ExV (.ref C) (some dd) a)) ((.ref a, .raw true (ExV (.ref C) (some dd) a)) :: ((.ref dd, .raw false (.xd (ns.zip vs))) :: (vs.zip ds ++ P))) := Sp.new (Q := []) s1 ha fun Y F r => by
    cases r
    exact ⟨[a], .rawO upd_same rfl trivial, .inr rfl⟩
  have s3 : Sp K mg Z Hb (upd H a (ExV (.ref C) (some dd) a)) ((.ref a, .raw false (ExV (.ref C) (some dd) a)) :: ((.ref dd, .raw false (.xd (ns.zip vs))) :: (vs.zip ds ++ P))) := s2.freeze
  refine Sp.conv (Q := (.ref a, .raw false (ExV (.ref C) (some dd) a)) :: (.ref dd, .raw false (.xd (ns.zip vs))) :: vs.zip ds) (Q' := [(.ref a, .exc c ns ds)]) s3 fun Y F r => ?_
  cases r with
  | cons q t => cases q with
    | rawF _ _ z _ => cases t with
      | cons q2 t2 => cases q2 with
        | rawF _ _ z2 _ =>
          have u := t2.unzip (by omega)
          have e := u.own_nil hf
          subst e
          have hfs : (ns.zip vs).map (·.1) = ns := List.map_fst_zip (by omega)
          have hsn : (ns.zip vs).map (·.2) = vs := List.map_snd_zip (by omega)
          have r0 : Rep K mg (upd H a (ExV (.ref C) (some dd) a)) Y (.ref a) (.exc c ns ds) [] := .exc (fs := ns.zip vs) upd_same z hc (.inr ⟨dd, rfl, fun e => hne (by rw [← hfs, e]; rfl), hdd2, z2⟩) hfs (by rw [hsn]; exact u)
          simpa using Rps.cons r0 (Rps.nil (K := K) (mg := mg) (Z := Y))
end DL
set_option Elab.async false
set_option linter.all false
set_option maxRecDepth 100000
set_option maxHeartbeats 4000001
namespace DL
open PySem.Spec PySem L2 PyProof.Rows LamX
end DL
set_option Elab.async false
set_option linter.all false
set_option maxRecDepth 100000
set_option maxHeartbeats 4000001
namespace DL
open PySem.Spec PySem L2 PyProof.Rows
section
variable {prog : Program} {w : World} {A : Around} {E : Value → Shared → Prop} {s : Shared} {K : PySem.W.Frag} {x D : Addr} {ox : Obj} {od : Option Obj}
theorem class_found (C : ExcC K D) : PySem.W.findObj K D od "__class__" = some (.bind (.builtin "getset_descriptor.__get__") (.builtin "object.__class__")) := by
  obtain ⟨cd, e, _⟩ := PySem.W.any_some C.hd
  simp only [PySem.W.findObj, e, C.ha, C.hn, C.ht, Option.bind_some]
/-- the base's own look at the class: what its descriptor hands out -/
theorem class_looked {Q : Value → Shared → Prop} {t : Tok} (C : ExcC K D) (X : K.In s.heap) (I : PySem.W.InstAt s.heap x ox D od) (q : Q (.ref D) s) :
    wpAny (model prog w) A (call (.builtin "BaseException.__getattribute__") [.ref x, .str "__class__" t]) Q E s := by
  obtain ⟨hp, g, d, tk, os⟩ := s
  have ty := I.type (M := model prog w)
  have sub : PySem.W.Looks (model prog w) hp (isInstance (.ref x) (.type "BaseException")) true := ty.andThen (PySem.W.looks_subIn X C.hs)
  apply wpAny_call
  apply codeAny_call_builtin PySem.F.excAttr_ValueError.ga.plain PySem.F.entry_bexc_ga
  apply @PySem.W.check_slot (model prog w) _ _ ⟨hp, g, d, tk, os⟩ "BaseException.__getattribute__" "BaseException" "__getattribute__" (.ref x) [.str "__class__" t] [] _ (by decide +kernel) (by decide +kernel) sub (PySem.F.args_bexc_ga _ _)
  unfold Builtin.«object.__getattribute__»
  apply wpAny_bind
  apply wpAny_of_eq (a := ((Value.ref x : Value), [Value.str "__class__" t])) (by first | rfl | (simp only [slotArgs]; rfl))
  apply wpAny_bind
  apply wpAny_pure
  apply wpAny_bind
  apply ty.at
  apply wpAny_bind
  apply (PySem.W.looks_find (M := model prog w) X I (class_found C)).at
  apply wpAny_bind
  apply wpAny_holding
  apply wpAny_call
  apply PySem.W.class_get (s := ⟨hp, g, d, tk, os⟩) (ox := ox) (od := od) X I C.hm
  apply wpAny_pure
  exact q
theorem class_asked {Q : Option Value → Shared → Prop} (C : ExcC K D) (X : K.In s.heap) (I : PySem.W.InstAt s.heap x ox D od) (q : Q (some (.ref D)) { s with toks := s.toks + 1 }) : wpAny (model prog w) A (getAttr? (.ref x) "__class__") Q E s := by
  have other : (Value.builtin "BaseException.__getattribute__" == Value.builtin "object.__getattribute__") = false := by decide +kernel
  unfold getAttr? getAttrBy? getAttrBy
  apply wpAny_bind
  apply wpAny_mkText
  apply wpAny_bind
  apply wpAny_attempt
  apply wpAny_holding
  apply wpAny_bind
  apply (I.type (M := model prog w)).at
  apply wpAny_bind
  apply (PySem.W.looks_findIn (M := model prog w) X C.hg).at
  change wpAny _ _ (if (true && Value.builtin "BaseException.__getattribute__" == Value.builtin "object.__getattribute__") = true then _ else _) _ _ _
  simp only [other, Bool.and_false, Bool.false_eq_true, ↓reduceIte]
  unfold getAttrByItsOwn hookBefore
  apply wpAny_bind
  rw [if_pos (show onTheHeap (Value.ref D) = true from rfl)]
  apply (PySem.W.looks_findIn (M := model prog w) X C.hk).at
  apply wpAny_bind
  apply wpAny_attempt
  apply wpAny_holding
  unfold callGetattribute
  rw [show (false && onTheHeap (Value.builtin "BaseException.__getattribute__")) = false from rfl]
  simp only [Bool.false_eq_true, ↓reduceIte]
  unfold boundAndCalled
  rw [PySem.F.excAttr_ValueError.ga.bind (.ref x)]
  apply wpAny_bind
  apply wpAny_pure
  refine class_looked (s := { s with toks := s.toks + 1 }) C X I ?_
  apply PySem.W.handed_on rfl
  exact wpAny_pure q
theorem cls_there (C : ExcC K D) : ∃ c d cd sl, K.lookup D = some ⟨c, d, .cls cd, sl⟩ := by
  obtain ⟨cd, e, _⟩ := PySem.W.any_some C.hd
  simp only [PySem.W.clsIn] at e
  split at e
  · exact ⟨_, _, _, _, by assumption⟩
  · exact nomatch e
theorem kitX_exc (C : ExcC K D) : PySem.W.KitX K (.ref x) (.ref D) (fun h => PySem.W.InstAt h x ox D od) where
  ty := fun _ _ _ => PySem.W.InstAt.type
  it := fun _ _ X _ _ _ _ _ k q => by
    obtain ⟨_, _, _, _, e⟩ := cls_there C
    unfold isType loadHead
    apply wpAny_bind
    apply wpAny_loadPart (k _ _ (X _ _ e))
    exact wpAny_pure q
  ne := fun h tp _ _ _ _ X at_ => by
    obtain ⟨_, _, _, _, e⟩ := cls_there C
    rw [beq_eq_false_iff_ne]
    intro z
    cases z
    cases (X _ _ e).symm.trans at_
  ca := fun X I q => class_asked C X I q
end
/-- an exception that is kept, as the heap holds it -/
theorem exV_inst {P : Program} {w : World} {H : Hp} {h : Heap} {a D : Addr} {d : Option Addr} {fs : List (Str × V)} (hok : HOk P w H h) (e : H a = some (ExV (.ref D) d a)) (alt : (d = none ∧ fs = []) ∨ ∃ dd, d = some dd ∧ H dd = some (.xd fs)) :
    ∃ ox od, PySem.W.InstAt h a ox D od ∧ (∀ name v, fs.lookup name = some v → ∃ o u, od = some o ∧ PySem.W.lookIn name o = some (some u) ∧ RelV v u) := by
  obtain ⟨⟨ox, vs, at_, ⟨z1, z2⟩, z3⟩, _⟩ := hok a _ e
  have no : PySem.W.notCls ox = true := by unfold PySem.W.notCls; rw [z3]
  rcases alt with ⟨rfl, rfl⟩ | ⟨dd, rfl, ed⟩
  · exact ⟨ox, none, ⟨at_, z1, no, by rw [z2]; trivial⟩, fun name v q => nomatch q⟩
  · obtain ⟨m, ns, rel⟩ := (show ObjOk P w H h dd (.xd fs) from hok dd _ ed)
    obtain ⟨o, ho, look⟩ := lookIn_ns ns
    refine ⟨ox, some o, ⟨at_, z1, no, by rw [z2]; exact ho⟩, fun name v q => ?_⟩
    obtain ⟨u, eu, ru⟩ := RelO.some_of (v := v) (o := m name) (q ▸ rel name)
    exact ⟨o, u, rfl, by rw [look, eu], ru⟩
/-- isinstance(e, c), e an exception that is kept -/
def rIsF (K : PySem.W.Frag) : List V → Hp → VK → Prop := fun xs H Q => ∃ (a D : Addr) (d : Option Addr) (fs : List (Str × V)) (c : V) (cv : Value) (b : Bool), xs = [.ref a, c] ∧ H a = some (ExV (.ref D) d a) ∧ ((d = none ∧ fs = []) ∨ ∃ dd, d = some dd ∧ H dd = some (.xd fs)) ∧ ExcC K D ∧ ClsV c cv ∧
  PySem.W.kitOne K (.ref D) cv = some b ∧ Q (.bl b) H
theorem call_isF {X : Cx} : CallR X (.builtin "isinstance") (rIsF X.K) := by
  rintro pins s σ H _ us Q I r ⟨a, D, d, fs, c, cv, b, rfl, ha, alt, C, hc, e, q⟩
  rcases r with _ | ⟨rfl, _ | ⟨rt, _ | _⟩⟩
  cases hc.eq rt
  obtain ⟨ox, od, J, _⟩ := exV_inst I.hok ha alt
  exact PySem.W.kia_one (kitX_exc C) I.kIn J e nofun fun tk => ⟨.bl b, H, I.tok tk, rfl, q⟩
end DL
set_option Elab.async false
set_option linter.all false
set_option maxRecDepth 100000
set_option maxHeartbeats 4000001
namespace DL
open PySem.Spec PySem PyProof.Rows PySem.HandSPX
section
variable {M : Model} {A : Around} {E : Value → Shared → Prop} {h : Heap} {g : Array GenState} {d : Drawn} {t : Nat} {os : OsState}
variable {nm q : Str} {C N : Addr} {bs bm bmB : List Value} {hdct : Bool} {sn : List Str} {sub : List Value} {ab : Bool} {col : Option Bool} {dd : Option Addr} {k0 k1 k2 k3 k5 : Option Value} {B newId initId : String}
theorem kw_checked (F : ExcBaseFacts B newId initId bmB) (hT : ∀ X : String, bm.contains (.type X) = bmB.contains (.type X)) {f : Str} {v : Value} {Q : Unit → Shared → Prop}
    (hC : h.get? C = some (excClassObj nm q C N bs bm hdct sn sub ab col dd k0 k1 k2 k3 k5 newId)) (hq : Q () ⟨h, g, d, t, os⟩) : wpAny M A (checkBuiltinCall newId ⟨[.ref C], [(f, v)]⟩) Q E ⟨h, g, d, t, os⟩ := by
  have sup : (Value.ref C :: bm).contains (.type B) = true := by rw [List.contains_cons, hT, F.hasB, Bool.or_true]
  have star := F.noStar
  simp only [checkBuiltinCall, F.newKind, F.newSplit, F.newRow]
  repeat (first | (refine wpAny_isSubtype_exc hC ?_; rw [sup]) | refine wpAny_loadPart_at hC ?_ | refine wpAny_madeBy_exc hC ?_ | refine wpAny_staticBase_exc hC ?_ | simp only [bne_self_eq_false, Bool.false_eq_true, if_false] | wp_step)
  exact hq
end
section
variable {prog : Program} {w : World} {A : Around} {E : Value → Shared → Prop} {R : Result → Shared → Prop} {h : Heap} {g : Array GenState} {d : Drawn} {t : Nat} {os : OsState}
variable {nm q : Str} {C N : Addr} {bs bm bmB : List Value} {hdct : Bool} {sn : List Str} {sub : List Value} {ab : Bool} {col : Option Bool} {dd : Option Addr} {k0 k1 k2 k3 k5 : Option Value} {B newId initId : String}
/-- the base's __new__ looks at no name -/
theorem kw_new (F : ExcBaseFacts B newId initId bmB) (hT : ∀ X : String, bm.contains (.type X) = bmB.contains (.type X)) {f : Str} {v : Value} (hC : h.get? C = some (excClassObj nm q C N bs bm hdct sn sub ab col dd k0 k1 k2 k3 k5 newId))
    (k : R (.ok (.ret (.ref (h.objs.size + 1)))) ⟨(h.push (W.kdv_tup [])).push (excO C h.objs.size), g, d, t, os⟩) : codeAny (model prog w) A (.builtin newId ⟨[.ref C], [(f, v)]⟩) R ⟨h, g, d, t, os⟩ := by
  have last := F.ends
  have up : ∀ X, (Value.ref C :: bm).contains (.type X) = bmB.contains (.type X) := fun X => by rw [List.contains_cons, hT]; rfl
  apply codeAny_builtinAt F.entry
  unfold Builtin.«BaseException.__new__»
  apply PySem.wpAt_bind
  change PySem.wpAt _ _ _ (stack >>= _) _ _ _
  apply PySem.wpAt_bind
  apply PySem.wpAt_stack
  intro p below
  apply PySem.wpAt_of_wpAny
  wp_walk
  apply PySem.wpAt_of_wpAny
  rw [F.owner]
  repeat (first | with_reducible refine wpAny_loadPart_at hC ?_ | with_reducible refine wpAny_madeHere_exc F.canon hC ?_ | (with_reducible refine wpAny_isSubtype_exc hC ?_; rw [up]; first | rw [F.hasB] | rw [F.noAttr] | rw [F.noName]) | wp_step)
  change R _ _
  rw [Heap.size_push]
  exact k
theorem kw_type_call (F : ExcBaseFacts B newId initId bmB) (hT : ∀ X : String, bm.contains (.type X) = bmB.contains (.type X)) {f : Str} {v : Value} {fI : Addr} {Q : PySem.Fin → Shared → Prop} (hC : h.get? C = some (excClassObj nm q C N bs bm hdct sn sub ab col dd k0 k1 k2 k3 k5 newId))
    (init : W.Looks (model prog w) h (typeLookup (.ref C) "__init__") (some (.ref fI))) (bound : ∀ self, W.Looks (model prog w) h (bindSpecial (.ref fI) self) (.ref fI, [self]))
    (k : codeAny (model prog w) A (.call (.ref fI) ⟨[.ref (h.objs.size + 1)], [(f, v)]⟩) (fun r s' => match r with
      | .ok (.ret v) => v = .none ∧ Q (.done (.ret (.ref (h.objs.size + 1)))) s'
      | .ok _ => False
      | .error e => E e s') ⟨(h.push (W.kdv_tup [])).push (excO C h.objs.size), g, d, t, os⟩) :
    wpAny (model prog w) A (Builtin.«type.__call__» ⟨[.ref C], [(f, v)]⟩) Q E ⟨h, g, d, t, os⟩ := by
  repeat (first | with_reducible refine wpAny_madeBy_exc hC ?_ | with_reducible refine wpAny_loadPart_at hC ?_ | wp_step)
  apply codeAny_call_builtin_code (Code.quiet_builtin _ F.quiet) (kw_checked F hT hC _)
  apply kw_new F hT hC
  change wpAny _ _ _ _ _ _
  have old : ∀ b o, h.get? b = some o → ((h.push (W.kdv_tup [])).push (excO C h.objs.size)).get? b = some o := fun b o e => Heap.get?_push_of_some _ (Heap.get?_push_of_some _ e)
  have new : ((h.push (W.kdv_tup [])).push (excO C h.objs.size)).get? (h.objs.size + 1) = some (excO C h.objs.size) := by
    have z := Heap.get?_push_size (h.push (W.kdv_tup [])) (o := excO C h.objs.size) rfl
    rwa [Heap.size_push] at z
  have same : (Value.ref C :: bm).contains (.ref C) = true := by simp
  have hC2 := old _ _ hC
  unfold isInstance
  repeat (first | with_reducible refine wpAny_loadPart_at new ?_ | (with_reducible refine wpAny_isSubtype_exc hC2 ?_; rw [same]) | wp_step)
  change wpAny _ _ (typeLookup (.ref C) _) _ _ _
  apply (init.keeps old).at
  apply wpAny_holding
  apply wpAny_bind
  apply ((bound (.ref (h.objs.size + 1))).keeps old).at
  apply wpAny_bind
  apply wpAny_call
  refine codeAny_mono k fun r s' z => ?_
  match r, z with
  | .error e, z => exact z
  | .ok (.ret _), ⟨rfl, z⟩ =>
    first
      | exact wpAny_pure (wpAny_pure z)
      | (wp_walk; exact z)
theorem kw_call (F : ExcBaseFacts B newId initId bmB) (hT : ∀ X : String, bm.contains (.type X) = bmB.contains (.type X)) {f : Str} {v : Value} {fI : Addr} (hC : h.get? C = some (excClassObj nm q C N bs bm hdct sn sub ab col dd k0 k1 k2 k3 k5 newId))
    (init : W.Looks (model prog w) h (typeLookup (.ref C) "__init__") (some (.ref fI))) (bound : ∀ self, W.Looks (model prog w) h (bindSpecial (.ref fI) self) (.ref fI, [self]))
    (k : codeAny (model prog w) (A.under (.builtin "type.__call__" ⟨[.ref C], [(f, v)]⟩)) (.call (.ref fI) ⟨[.ref (h.objs.size + 1)], [(f, v)]⟩) (W.InitBack (h.objs.size + 1) R) ⟨(h.push (W.kdv_tup [])).push (excO C h.objs.size), g, d, t, os⟩) :
    codeAny (model prog w) A (.call (.ref C) ⟨[], [(f, v)]⟩) R ⟨h, g, d, t, os⟩ := by
  have look := tc_lookup
  have bind := tc_bind (.ref C)
  have ty : (⟨h, g, d, t, os⟩ : Shared).TypeIs (.ref C) "type" := ⟨_, hC, rfl⟩
  apply codeAny_of_tree
  change wpAny _ _ (callAny (.ref C) _) _ _ _
  repeat (any_goals (first | assumption | with_reducible refine wpAny_loadPart_at hC ?_ | wp_step))
  refine And.intro rfl ?_
  apply codeAny_call_builtin_at (Code.quiet_builtin _ (by decide +kernel)) entry_typeCall
  apply wpAny_check_type_call_sub hC
  apply kw_type_call F hT hC init bound
  refine codeAny_mono k fun r s' z => ?_
  match r, z with
  | .error _, z => exact z
  | .ok (.ret _), z => exact z
end
end DL
set_option Elab.async false
set_option linter.all false
set_option maxRecDepth 100000
set_option maxHeartbeats 4000001
namespace DL
open PySem.Spec PySem L2 PyProof.Rows
section
variable {X : Cx}
/-- what is made to be raised may be kept as well -/
theorem pe_kept {e : Expr} {t : L2.St → Hp → XK → Prop} (h : PMk X e t) : PE X e (fun σ H Q => t σ H fun cls d H1 => ∀ a, H1 a = none → Q (.ref a) (upd H1 a (ExV cls d a))) := by
  constructor
  intro pins s σ H Q I q
  refine wpAny_mono (h pins s σ H _ I q) ?_ fun _ _ z => z
  rintro _ s1 ⟨a, oe, vs, sI, H1, cls, d, rfl, J, old, ge, at_, zc, hd, _, na, os, bare, _, q1⟩
  have new : ObjOk X.prog X.w (upd H1 a (ExV cls d a)) s1.heap a (ExV cls d a) := ⟨⟨oe, vs, at_, zc, hd⟩, ⟨oe, at_⟩, fun _ _ ⟨o, v, e, r⟩ k => ⟨o, v, k o e, r⟩⟩
  exact ⟨.ref a, _, J.call' (ch := []) os (Un.laidN old ge na) (J.hok.laidN old na new) bare nofun, rfl, q1 a na⟩
variable {x f g self : Str} {C fI : Addr} {k : Nat} {fd : FuncData} {kws : List Keyword} {tk : TA} {p pos : Pos}
/-- C(g = e): the own __init__ gets its argument by name -/
theorem pmk_oexK (T : OexC X.K C) (iC : PySem.W.findIn X.K (.ref C) "__init__" = some (some (.ref fI))) (tI : PySem.W.typeIn X.K (.ref fI) = some (.type "function")) (F1 : FnOk X.prog X.w X.K X.mg X.base C8.CX0 k fI fd [self, g] (spI C f)) (hr : Room (k + 1) X.A)
    (hb : ∀ (s : Shared) (o u : Value), X.K.In s.heap → BindsTo s fd ⟨[o], [(g, u)]⟩ [(self, o), (g, u)]) (hg : Gl X x) (hm : X.mg x = some (.ref C)) (hkw : PK X kws tk) (hdb : (x == ("__debug__" : Str)) = false)
    (hall : (backToKw pos (keywordEach kws X.env)).all (·.1.isSome) = true) (hks : (backToKw pos (keywordEach kws X.env)).filterMap (·.1) = [g]) (hpl : ((backTo pos (starEach [] X.env)).any (·.1) || (backToKw pos (keywordEach kws X.env)).any (·.1.isNone)) = false) :
    PMk X (.Call (.Name x p) [] kws pos) (fun σ H Q => tk σ H fun zs H1 => ∃ v, zs = [v] ∧ ∀ d, H1 d = none → Q (.ref C) (some d) (upd H1 d (.xd [(f, v)]))) := by
  intro pins s σ H Q I h
  obtain ⟨nm, q, N, bs, bm, sn, sub, ab, col, dd, k0, k1, k2, k3, k5, hC, hbm⟩ := T.cls
  apply wpAny_Call_Name_kw
  apply ld_glob I hg hm _ hdb
  apply PySem.W.callWith_KW0 (h₀ := X.base) I.ok.mod.kin T.kC hall _ hpl
  refine wpAny_mono (hkw.run pos pins s σ H _ I h) ?_ fun _ _ z => z
  rintro ws ⟨hp, gn, dr, tk', os⟩ ⟨_, H1, I1, rz, v, rfl, q1⟩
  rcases rz with _ | ⟨ru, _ | _⟩
  rename_i u
  refine ⟨I1.kIn, ?_⟩
  rw [hks]
  change wpAny _ _ (call (.ref C) [] [(g, u)]) _ _ _
  have le : hp.objs.size ≤ hp.objs.size + 1 := Nat.le_succ _
  have na : H1 (hp.objs.size + 1) = none := I1.hok.fresh le
  have old : ∀ b o, hp.get? b = some o → ((hp.push (PySem.W.kdv_tup [])).push (PySem.HandSPX.excO C hp.objs.size)).get? b = some o := fun b o e => Heap.get?_push_of_some _ (Heap.get?_push_of_some _ e)
  have new : ((hp.push (PySem.W.kdv_tup [])).push (PySem.HandSPX.excO C hp.objs.size)).get? (hp.objs.size + 1) = some (PySem.HandSPX.excO C hp.objs.size) := by
    have z := Heap.get?_push_size (hp.push (PySem.W.kdv_tup [])) (o := PySem.HandSPX.excO C hp.objs.size) rfl
    rwa [Heap.size_push] at z
  have I2 : Inv X pins σ (upd H1 (hp.objs.size + 1) (exo (hp.objs.size + 1) C none)) ⟨(hp.push (PySem.W.kdv_tup [])).push (PySem.HandSPX.excO C hp.objs.size), gn, dr, tk', os⟩ := I1.laid (t' := tk') old le (exo_ok new)
  apply wpAny_call
  apply kw_call PySem.F.excBase_ValueError (fun Y => PySem.HandSPX.refsVE_contains Y bm hbm) (I1.kIn _ _ hC) (PySem.W.looks_findIn I1.kIn iC) (fun o => PySem.W.bind_fn I1.kIn o tI)
  have run := F1.run _ X.stack _ _ ⟨[Value.ref (hp.objs.size + 1)], [(g, u)]⟩ [Value.ref (hp.objs.size + 1), u] [V.ref (hp.objs.size + 1), v] (fun w H2 => w = .non ∧ ∃ d, H2 = upd (upd (upd H1 (hp.objs.size + 1) (exo (hp.objs.size + 1) C none)) d (exd d [(f, v)])) (hp.objs.size + 1) (exo (hp.objs.size + 1) C (some d)) ∧ H1 d = none ∧ d ≠ hp.objs.size + 1) (fun _ _ _ => False)
    (hr.make C [] [(g, u)]) (I2.env0.make C [] [(g, u)]) (hb _ _ _ I2.kIn) (.cons rfl (.cons ru .nil)) ⟨_, _, rfl, upd_same, fun d nd ne => ⟨rfl, d, rfl, by rwa [upd_ne ne] at nd, ne⟩⟩
  refine codeAny_mono run fun r t z => ?_
  match r, z with
  | .error e, z => exact pass0 pins σ _ _ e t I2 z
  | .ok (.ret _), z =>
    obtain ⟨_, _, os2, bare2, un2, hok2, rv, rfl, d, rfl, nd, ne⟩ := z
    obtain ⟨h2, g2, d2, t2, os'⟩ := t
    refine ⟨rv, mk_end (raises_own T.exC T.tyC) I1 le old un2 hok2 os2 bare2 upd_same (by rw [upd_ne ne, upd_same]) nd ?_⟩
    rw [heap_mk na ne]
    exact q1 d nd
end
end DL
set_option Elab.async false
set_option linter.all false
set_option maxRecDepth 100000
set_option maxHeartbeats 4000001
namespace DL
open PySem.Spec PySem L2 PyProof.Rows
section
variable {α β : Type} {i : MI} {own : List Nat} {t : MG} {c : MT} {m : ME} {b : MS} {δ δ1 : DL.Env}
theorem fzs_typ (g : α → D) (hg : ∀ x, isFz (g x) = true) (xs : List α) : fzs (xs.map g) = xs.map g := fzs_isFzs _ (isFzs_iff.mpr fun d hd => by
  obtain ⟨x, _, rfl⟩ := List.mem_map.mp hd
  exact hg x)
theorem fzs_strs (xs : List Str) : fzs (xs.map D.str) = xs.map D.str := fzs_typ _ (fun _ => rfl) xs
theorem iAny_lst {a : ME} {o : Bool} {ds : List D} (h : a δ = some (.lst o ds, δ1)) : iAny a δ = some (fzs ds, δ1) := by
  unfold iAny iLst
  rw [h]
  rfl
end
theorem Lab.ok {z : Str} (h : Lab z) : PyData.strOk z = true := by
  have e : z.cps.all (fun c => decide (c < 0x110000)) = true := by
    rw [← Array.all_toList]
    exact List.all_eq_true.mpr fun c hc => decide_eq_true (by have := h.c c hc; omega)
  first | exact e | (unfold PyData.strOk; exact e) | (unfold PyData.strOk Str.ok; exact e)
/-- a def of frozen things -/
theorem fin_rt {np N : Nat} {P : Nat → Bool} {b : MS} {ds : List D} {r : D} {δ : DL.Env} (hl : ds.length = np) (hP : ∀ j, j < np → P j = true) (h : b (ds.map some ++ List.replicate (N - np) none) = some (.rt r (ds.map some ++ δ))) : mFun np N P b ds = some (r, ds) := by
  have hb : ∀ (es : List D) (k : Nat) (γ : DL.Env), (∀ (j : Nat) (d : D), es[j]? = some d → γ[k + j]? = some (some d)) → (∀ j, k ≤ j → j < k + es.length → P j = true) → backs P k es γ = some es := by
    intro es
    induction es with
    | nil => intro k γ _ _; simp [backs]
    | cons d es ih =>
      intro k γ hg hk
      have h0 := hg 0 d rfl
      have := ih (k + 1) γ (fun j e he => by
        have := hg (j + 1) e (by simpa using he)
        rwa [show k + (j + 1) = k + 1 + j from by omega] at this) fun j h1 h2 => hk j (by omega) (by simp at h2 ⊢; omega)
      rw [Nat.add_zero] at h0
      simp [backs, hk k (by omega) (by simp), this, h0]
  unfold mFun
  rw [if_pos hl, h]
  simp only
  rw [hb ds 0 _ (fun j d he => ?_) fun j _ hj => hP j (by omega)]
  have hj := (List.getElem?_eq_some_iff.mp he).1
  rw [Nat.zero_add, List.getElem?_append_left (by simpa using hj), List.getElem?_map, he]
  rfl
theorem ownC_fz {d : D} (h : isFz d = true) : ownC d = false := by
  cases d with
  | lst o ds => cases o <;> simp_all [isFz, ownC]
  | dct o ks vs => cases o <;> simp_all [isFz, ownC]
  | obj o c ns vs => cases o <;> simp_all [isFz, ownC]
  | _ => rfl
theorem walk_nilF {d : D} (h : isFz d = true) : walk d [] = some (d, d) := by rw [walk, if_pos h]
theorem walkF {d e t e' : D} {st : Stp} {p : List Stp} {j : Nat} (hf : isFz d = true) (hj : chN d st = some j) (he : (kids d)[j]? = some e) (hw : walk e p = some (t, e')) : walk d (st :: p) = some (t, d) := by
  rw [walk]
  simp only [hj, he, ownC_fz hf, hf, hw]
  rfl
theorem ev_path {i : Nat} {mp : MP} {δ : DL.Env} {d t d' : D} {p : List Stp} (hd : δ[i]? = some (some d)) (hp : mp δ = some p) (hw : walk d p = some (t, d')) : mPath i mp δ = some (t, δ.set i (some d')) := by
  unfold mPath
  simp only [hd, hp, hw]
theorem ev_altE {a b : ME} {δ : DL.Env} {r : D × DL.Env} (h : a δ = some r) : mAlt a b δ = some r := by
  unfold mAlt
  rw [h]
theorem ev_altI {a b : MI} {δ : DL.Env} {r : List D × DL.Env} (h : a δ = some r) : iAlt a b δ = some r := by
  unfold iAlt
  rw [h]
theorem ev_fz {a : ME} {δ δ1 : DL.Env} {d : D} (h : a δ = some (d, δ1)) : mFz a δ = some (fz d, δ1) := by
  unfold mFz
  rw [h]
theorem ev_expr {m : ME} {δ δ1 : DL.Env} {d : D} (h : m δ = some (d, δ1)) : sExpr m δ = some (.nx δ1) := by
  unfold sExpr
  rw [h]
theorem gAppend_ok {ds : List D} {x : D} (h : ds.length < sizeLine) : gAppend (.lst true ds) [x] = some (.non, .lst true (ds ++ [x])) := by
  unfold gAppend
  exact if_pos h
theorem ev_some {m : ME} {δ δ1 : DL.Env} {i : Int} (h : m δ = some (.int i, δ1)) : oSome m δ = some (some i, δ1) := by
  unfold oSome
  rw [h]
theorem ev_lst {r : ML} {δ δ1 : DL.Env} {xs : List D} (h1 : r δ = some (xs, δ1)) (hz : xs.length ≤ sizeLine) : mLst r δ = some (.lst true xs, δ1) := by
  unfold mLst
  rw [h1]
  exact if_pos hz
theorem perm2 {m : MF} {a b a' b' r : D} (h : m [b, a] = some (r, [b', a'])) : mPerm [1, 0] [1, 0] m [a, b] = some (r, [a', b']) := by
  unfold mPerm
  rw [show pm [1, 0] [a, b] = [b, a] from rfl, h]
  rfl
theorem perm3 {m : MF} {a b c a' b' c' r : D} (h : m [c, b, a] = some (r, [c', b', a'])) : mPerm [2, 1, 0] [2, 1, 0] m [a, b, c] = some (r, [a', b', c']) := by
  unfold mPerm
  rw [show pm [2, 1, 0] [a, b, c] = [c, b, a] from rfl, h]
  rfl
end DL
set_option Elab.async false
set_option linter.all false
set_option maxRecDepth 100000
set_option maxHeartbeats 4000001
namespace DL
open PySem.Spec PySem L2 PyProof.Rows
structure Bd (n : Nat) (y : Str) : Prop where
  ok : ∀ c ∈ y.cps.toList, c < 0x110000
  len : y.length ≤ n
theorem Bd.mono {n m : Nat} {y : Str} (h : Bd n y) (hm : n ≤ m) : Bd m y := ⟨h.ok, Nat.le_trans h.len hm⟩
theorem cps_app (x y : Str) : (x ++ y).cps.toList = x.cps.toList ++ y.cps.toList := TL.tl_append x y
theorem Bd.app {n m : Nat} {x y : Str} (h : Bd n x) (k : Bd m y) : Bd (n + m) (x ++ y) := by
  refine ⟨fun c hc => ?_, by rw [strLen_append]; exact Nat.add_le_add h.len k.len⟩
  rw [cps_app] at hc
  (rcases List.mem_append.mp hc with hc | hc)
  · exact h.ok c hc
  · exact k.ok c hc
theorem bd_lit {y : Str} (h : (y.cps.toList.all fun c => decide (c < 0x110000)) = true) : Bd y.length y := ⟨fun c hc => by simpa using List.all_eq_true.mp h c hc, Nat.le_refl _⟩
theorem bd_cs : Bd 2 (Str.ofString ", ") := (bd_lit (by decide +kernel)).mono (by decide +kernel)
theorem Bd.join {n : Nat} : ∀ {ts : List Str}, (∀ t ∈ ts, Bd n t) → Bd (ts.length * (n + 2)) (Str.join ", " ts)
  | [], _ => ⟨fun c hc => (by cases hc), Nat.zero_le _⟩
  | [x], h => (h x List.mem_cons_self).mono (by simp)
  | x :: y :: r, h => by
    have ih := Bd.join (ts := y :: r) fun t ht => h t (List.mem_cons_of_mem _ ht)
    have e : Str.join ", " (x :: y :: r) = x ++ Str.ofString ", " ++ Str.join ", " (y :: r) := rfl
    rw [e]
    refine (((h x List.mem_cons_self).app bd_cs).app ih).mono ?_
    simp only [List.length_cons, Nat.add_mul]
    omega
theorem Bd.tuple {n : Nat} {ts : List Str} (h : ∀ t ∈ ts, Bd n t) : Bd (ts.length * (n + 2) + 3) (tupleText ts) := by
  have a : Bd 1 (Str.ofString "(") := (bd_lit (by decide +kernel)).mono (by decide +kernel)
  have b : ∀ k : Bool, Bd 2 (Str.ofString (if k then ",)" else ")")) := fun k => by cases k <;> exact (bd_lit (by decide +kernel)).mono (by decide +kernel)
  exact (((a.app (Bd.join h)).app (b (ts.length == 1)))).mono (by omega)
theorem textFrom_bd {n : Nat} : ∀ {ts : List Str} {k m : Nat} {acc : Str}, Bd m acc → (∀ t ∈ ts, Bd n t) → Bd (m + ts.length * (n + 2)) (textFrom k acc ts)
  | [], k, m, acc, h, _ => h.mono (by omega)
  | t :: ts, k, m, acc, h, ht => by
    have b : Bd 2 (Str.ofString (if k > 0 then ", " else "")) := by
      by_cases hk : k > 0
      · rw [if_pos hk]; exact bd_cs
      · rw [if_neg hk]; exact (bd_lit (by decide +kernel)).mono (by decide +kernel)
    have := textFrom_bd (k := k + 1) ((h.app b).app (ht t List.mem_cons_self)) fun x hx => ht x (List.mem_cons_of_mem _ hx)
    refine Bd.mono this ?_
    simp only [List.length_cons, Nat.add_mul]
    omega
theorem Bd.list {n : Nat} {ts : List Str} (h : ∀ t ∈ ts, Bd n t) : Bd (ts.length * (n + 2) + 3) (listText ts) := by
  have a : Bd 1 (Str.ofString "[") := (bd_lit (by decide +kernel)).mono (by decide +kernel)
  have b : Bd 1 (Str.ofString "]") := (bd_lit (by decide +kernel)).mono (by decide +kernel)
  exact ((textFrom_bd (k := 0) a h).app b).mono (by omega)
structure Sh (n k : Nat) (d : D) (p : PyData) : Prop where
  py : toPyR d = some p
  sh : p.showable = true
  dp : p.depth ≤ k
  bd : Bd n p.shown
theorem Sh.mono {n m k j : Nat} {d : D} {p : PyData} (h : Sh n k d p) (hn : n ≤ m) (hk : k ≤ j) : Sh m j d p := ⟨h.py, h.sh, Nat.le_trans h.dp hk, h.bd.mono hn⟩
theorem dRepr_of {d : D} {w : Str} (h : reprD d = some w) : dRepr [d] = some (.str w) := by
  unfold dRepr
  simp only [h, Option.map_some]
end DL
set_option Elab.async false
set_option linter.all false
set_option maxRecDepth 100000
set_option maxHeartbeats 4000001
namespace DL
open PySem.Spec PySem L2 PyProof.Rows
theorem au_lt {a b : Nat} (h : Nat.blt a b = true) : a < b := Nat.le_of_ble_eq_true h
theorem au_s0 {α : Type} {a x : α} {l : List α} : (a :: l).set 0 x = x :: l := rfl
theorem au_ss {α : Type} {a x : α} {l m : List α} {i : Nat} (h : l.set i x = m) : (a :: l).set (i + 1) x = a :: m := by rw [← h]; rfl
theorem au_a0 {α : Type} {m : List α} : [] ++ m = m := rfl
theorem au_as {α : Type} {a : α} {l m n : List α} (h : l ++ m = n) : (a :: l) ++ m = a :: n := by rw [← h]; rfl
theorem au_fnon : fz .non = .non := rfl
theorem au_fbl {b : Bool} : fz (.bl b) = .bl b := rfl
theorem au_fint {i : Int} : fz (.int i) = .int i := rfl
theorem au_fstr {x : Str} : fz (.str x) = .str x := rfl
theorem au_fty {x : BT} : fz (.ty x) = .ty x := rfl
theorem au_fglo {x : Str} : fz (.glo x) = .glo x := rfl
theorem au_ftup {ds es : List D} (h : fzs ds = es) : fz (.tup ds) = .tup es := by rw [← h]; rfl
theorem au_flst {o : Bool} {ds es : List D} (h : fzs ds = es) : fz (.lst o ds) = .lst false es := by rw [← h]; rfl
theorem au_fdct {o : Bool} {ks : List Key} {ds es : List D} (h : fzs ds = es) : fz (.dct o ks ds) = .dct false ks es := by rw [← h]; rfl
theorem au_fobj {o : Bool} {c : Str} {ns : List Str} {ds es : List D} (h : fzs ds = es) : fz (.obj o c ns ds) = .obj false c ns es := by rw [← h]; rfl
theorem au_f0 : fzs [] = [] := rfl
theorem au_fs {d e : D} {ds es : List D} (h1 : fz d = e) (h2 : fzs ds = es) : fzs (d :: ds) = e :: es := by rw [← h1, ← h2]; rfl
theorem au_fstrs {xs : List Str} : fzs (xs.map D.str) = xs.map D.str := fzs_strs xs
theorem au_var {i : Nat} {δ δ' : DL.Env} {d d' : D} (h : δ[i]? = some (some d)) (hf : fz d = d') (hs : δ.set i (some d') = δ') : mVar i δ = some (d', δ') := by
  rw [ev_varf h, hf, hs]
theorem au_mv {i : Nat} {δ δ' : DL.Env} {d : D} (h : δ[i]? = some (some d)) (hs : δ.set i none = δ') : mMv i δ = some (d, δ') := by
  unfold mMv; rw [h]; simp only [hs]
theorem au_c {d : D} {δ : DL.Env} : mC d δ = some (d, δ) := rfl
theorem au_nil {δ : DL.Env} : mNil δ = some ([], δ) := rfl
theorem au_fz {a : ME} {δ δ1 : DL.Env} {d d' : D} (h : a δ = some (d, δ1)) (hf : fz d = d') : mFz a δ = some (d', δ1) := by rw [ev_fz h, hf]
theorem au_tup {r : ML} {δ δ1 : DL.Env} {xs : List D} (h1 : r δ = some (xs, δ1)) (hz : Nat.ble xs.length 1000 = true) : mTup r δ = some (.tup xs, δ1) := ev_tup h1 (Nat.le_trans (Nat.le_of_ble_eq_true hz) (by decide))
theorem au_lst {r : ML} {δ δ1 : DL.Env} {xs : List D} (h1 : r δ = some (xs, δ1)) (hz : Nat.ble xs.length 1000 = true) : mLst r δ = some (.lst true xs, δ1) := ev_lst h1 (Nat.le_trans (Nat.le_of_ble_eq_true hz) (by decide))
theorem au_bin {g : D → D → Option D} {a b : ME} {δ δ1 δ2 : DL.Env} {x y d : D} (h1 : a δ = some (x, δ1)) (h2 : b δ1 = some (y, δ2)) (h3 : g x y = some d) : mBin g a b δ = some (d, δ2) := ev_bin h1 h2 h3
theorem au_un {g : D → Option D} {a : ME} {δ δ1 : DL.Env} {x d : D} (h1 : a δ = some (x, δ1)) (h3 : g x = some d) : mUn g a δ = some (d, δ1) := by
  unfold mUn; rw [h1]; simp only [h3]
theorem au_neg {a : ME} {δ δ1 : DL.Env} {i : Int} (h1 : a δ = some (.int i, δ1)) : mNeg a δ = some (.int (-i), δ1) := by
  unfold mNeg; rw [h1]
theorem au_callB {g : List D → Option D} {r : ML} {δ δ1 : DL.Env} {xs : List D} {d : D} (h1 : r δ = some (xs, δ1)) (h2 : g xs = some d) : mCallB g r δ = some (d, δ1) := ev_callB h1 h2
theorem au_tupL {a : ME} {δ δ1 : DL.Env} {o : Bool} {ds : List D} (h : a δ = some (.lst o ds, δ1)) : mTupL a δ = some (.tup ds, δ1) := by
  unfold mTupL; rw [h]
/-- one of two -/
def pick2 {α : Type} (k : Bool) (a b : α) : α := match k with
  | true => a
  | false => b
theorem au_pt {α : Type} {a b o : α} (h : a = o) : pick2 true a b = o := h
theorem au_pf {α : Type} {a b o : α} (h : b = o) : pick2 false a b = o := h
theorem au_pht {α : Type} {k : Bool} {a b o : α} (hk : k = true) (h : a = o) : pick2 k a b = o := by subst hk; exact h
theorem au_phf {α : Type} {k : Bool} {a b o : α} (hk : k = false) (h : b = o) : pick2 k a b = o := by subst hk; exact h
theorem au_if {t : MT} {a b : ME} {δ δ1 : DL.Env} {k : Bool} {o : Option (D × DL.Env)} (h : t δ = some (k, δ1)) (h2 : pick2 k (a δ1) (b δ1) = o) : mIf t a b δ = o := by
  unfold mIf; rw [h, ← h2]; cases k <;> rfl
theorem au_toT {m : ME} {δ δ1 : DL.Env} {b : Bool} (h : m δ = some (.bl b, δ1)) : toT m δ = some (b, δ1) := ev_toT h
theorem au_tru {m : ME} {δ δ1 : DL.Env} {d : D} {b : Bool} (h : m δ = some (d, δ1)) (ht : truD d = some b) : mTru m δ = some (b, δ1) := by
  unfold mTru; rw [h]; simp only [ht]
theorem au_not {t : MT} {δ δ1 : DL.Env} {b : Bool} (h : t δ = some (b, δ1)) : tNot1 t δ = some (!b, δ1) := by
  unfold tNot1; rw [h]
theorem au_ttrue {δ : DL.Env} : tTrue δ = some (true, δ) := rfl
theorem au_and {a b : MT} {δ δ1 : DL.Env} {k : Bool} {o : Option (Bool × DL.Env)} (h : a δ = some (k, δ1)) (h2 : pick2 k (b δ1) (some (false, δ1)) = o) : tAnd2 a b δ = o := by
  unfold tAnd2; rw [h, ← h2]; cases k <;> rfl
theorem au_or {a b : MT} {δ δ1 : DL.Env} {k : Bool} {o : Option (Bool × DL.Env)} (h : a δ = some (k, δ1)) (h2 : pick2 k (some (true, δ1)) (b δ1) = o) : tOr2 a b δ = o := by
  unfold tOr2; rw [h, ← h2]; cases k <;> rfl
theorem au_mand {a b : ME} {δ δ1 : DL.Env} {d : D} {k : Bool} {o : Option (D × DL.Env)} (h : a δ = some (d, δ1)) (ht : truD d = some k) (h2 : pick2 k (b δ1) (some (d, δ1)) = o) : mAnd a b δ = o := by
  unfold mAnd; rw [h, ← h2]; simp only [ht]; cases k <;> rfl
theorem au_mor {a b : ME} {δ δ1 : DL.Env} {d : D} {k : Bool} {o : Option (D × DL.Env)} (h : a δ = some (d, δ1)) (ht : truD d = some k) (h2 : pick2 k (some (d, δ1)) (b δ1) = o) : mOr a b δ = o := by
  unfold mOr; rw [h, ← h2]; simp only [ht]; cases k <;> rfl
theorem au_mnot {a : ME} {δ δ1 : DL.Env} {d : D} {k : Bool} (h : a δ = some (d, δ1)) (ht : truD d = some k) : mNot a δ = some (.bl !k, δ1) := by
  unfold mNot; rw [h]; simp only [ht]
def thenO (o : Fl) (b : MS) : Option Fl := match o with
  | .nx δ => b δ
  | r => some r
theorem au_nx {δ : DL.Env} {b : MS} {o : Option Fl} (h : b δ = o) : thenO (.nx δ) b = o := h
theorem au_rt {δ : DL.Env} {b : MS} {r : D} : thenO (.rt r δ) b = some (.rt r δ) := rfl
theorem au_bk {δ : DL.Env} {b : MS} : thenO (.bk δ) b = some (.bk δ) := rfl
theorem au_ct {δ : DL.Env} {b : MS} : thenO (.ct δ) b = some (.ct δ) := rfl
theorem au_seq {a b : MS} {δ : DL.Env} {p : Fl} {o : Option Fl} (h : a δ = some p) (h2 : thenO p b = o) : sCons a b δ = o := by
  unfold sCons; rw [h, ← h2]; cases p <;> rfl
theorem au_sif {t : MT} {a b : MS} {δ δ1 : DL.Env} {k : Bool} {o : Option Fl} (h : t δ = some (k, δ1)) (h2 : pick2 k (a δ1) (b δ1) = o) : sIf t a b δ = o := by
  unfold sIf; rw [h, ← h2]; cases k <;> rfl
theorem au_snil {δ : DL.Env} : sNil δ = some (.nx δ) := rfl
theorem au_sbk {δ : DL.Env} : sBreak δ = some (.bk δ) := rfl
theorem au_sct {δ : DL.Env} : sCont δ = some (.ct δ) := rfl
theorem au_retN {δ : DL.Env} : sRetN δ = some (.rt .non δ) := rfl
theorem au_expr {m : ME} {δ δ1 : DL.Env} {d : D} (h : m δ = some (d, δ1)) : sExpr m δ = some (.nx δ1) := ev_expr h
theorem au_ret {m : ME} {δ δ1 : DL.Env} {d : D} (h : m δ = some (d, δ1)) : sRet m δ = some (.rt d δ1) := ev_ret h
theorem au_set {i : Nat} {m : ME} {δ δ1 δ2 : DL.Env} {d : D} (h : m δ = some (d, δ1)) (hi : Nat.blt i δ1.length = true) (hs : δ1.set i (some d) = δ2) : sSet i m δ = some (.nx δ2) := by
  rw [ev_set h (au_lt hi), hs]
def setsE : List Nat → List D → DL.Env → Option DL.Env
  | [], [], δ => some δ
  | i :: is, d :: ds, δ => if i < δ.length then setsE is ds (δ.set i (some d)) else none
  | _, _, _ => none
theorem setsE_fold : ∀ (is : List Nat) (ds : List D) (δ δ' : DL.Env), setsE is ds δ = some δ' → ds.length = is.length ∧ (∀ i ∈ is, i < δ.length) ∧ (is.zip ds).foldl (fun δ p => δ.set p.1 (some p.2)) δ = δ'
  | [], [], δ, δ', h => ⟨rfl, by simp, by cases h; rfl⟩
  | [], _ :: _, _, _, h => by cases h
  | _ :: _, [], _, _, h => by cases h
  | i :: is, d :: ds, δ, δ', h => by
    unfold setsE at h
    split at h
    · rename_i hi
      obtain ⟨h1, h2, h3⟩ := setsE_fold is ds _ _ h
      refine ⟨by simp [h1], fun j hj => ?_, h3⟩
      rcases List.mem_cons.mp hj with rfl | hj
      · exact hi
      · simpa using h2 j hj
    · cases h
theorem au_sets0 {δ : DL.Env} : setsE [] [] δ = some δ := rfl
theorem au_setss {i : Nat} {is : List Nat} {d : D} {ds : List D} {δ δ1 δ' : DL.Env} (hi : Nat.blt i δ.length = true) (hs : δ.set i (some d) = δ1) (h : setsE is ds δ1 = some δ') : setsE (i :: is) (d :: ds) δ = some δ' := by
  unfold setsE
  rw [if_pos (au_lt hi), hs, h]
theorem au_par {is : List Nat} {r : ML} {δ δ1 δ2 : DL.Env} {ds : List D} (h : r δ = some (ds, δ1)) (h2 : setsE is ds δ1 = some δ2) : sPar is r δ = some (.nx δ2) := by
  obtain ⟨a, b, c⟩ := setsE_fold is ds δ1 δ2 h2
  unfold sPar
  rw [h]
  simp only [if_pos (show ds.length = is.length ∧ (∀ i ∈ is, i < δ1.length) from ⟨a, b⟩), c]
theorem au_asg {m : ME} {t : MG} {δ δ1 δ2 : DL.Env} {d : D} (h : m δ = some (d, δ1)) (ht : t d δ1 = some δ2) : sAsg m t δ = some (.nx δ2) := by
  unfold sAsg; rw [h]; simp only [ht]
theorem au_tname {i : Nat} {d : D} {δ δ1 : DL.Env} (hi : Nat.blt i δ.length = true) (hs : δ.set i (some d) = δ1) : tName i d δ = some δ1 := by
  unfold tName
  rw [if_pos (au_lt hi), hs]
theorem au_ttup {u : MGs} {ds : List D} {δ δ1 : DL.Env} (h : u ds δ = some δ1) : tTup u (.tup ds) δ = some δ1 := h
theorem au_tsnil {δ : DL.Env} : tsNil [] δ = some δ := rfl
theorem au_tscons {t : MG} {u : MGs} {d : D} {ds : List D} {δ δ1 δ2 : DL.Env} (h : t d δ = some δ1) (h2 : u ds δ1 = some δ2) : tsCons t u (d :: ds) δ = some δ2 := by
  unfold tsCons; simp only [h, h2]
theorem au_for {i : MI} {t : MG} {b : MS} {δ δ1 : DL.Env} {ds : List D} {o : Option Fl} (h : i δ = some (ds, δ1)) (h2 : loopF t b ds δ1 = o) : sFor i t b δ = o := by rw [ev_for h, h2]
theorem au_k0 {δ : DL.Env} : fzE (keepM [] ([] : DL.Env)) = [] := rfl
theorem au_kr {m : List Bool} : fzE (keepM m ([] : DL.Env)) = [] := by cases m with
  | nil => rfl
  | cons b m => cases b <;> rfl
theorem au_kn {d : Option D} {δ δ' : DL.Env} (h : fzE (keepM [] δ) = δ') : fzE (keepM [] (d :: δ)) = none :: δ' := by rw [← h]; rfl
theorem au_kf {d : Option D} {m : List Bool} {δ δ' : DL.Env} (h : fzE (keepM m δ) = δ') : fzE (keepM (false :: m) (d :: δ)) = none :: δ' := by rw [← h]; rfl
theorem au_kt {d d' : D} {m : List Bool} {δ δ' : DL.Env} (hf : fz d = d') (h : fzE (keepM m δ) = δ') : fzE (keepM (true :: m) (some d :: δ)) = some d' :: δ' := by rw [← h, ← hf]; rfl
theorem au_kt0 {m : List Bool} {δ δ' : DL.Env} (h : fzE (keepM m δ) = δ') : fzE (keepM (true :: m) (none :: δ)) = none :: δ' := by rw [← h]; rfl
theorem au_purP {m : List Bool} {f : ME} {δ δ0 δ1 : DL.Env} {d : D} (hm : fzE (keepM m δ) = δ0) (h : f δ0 = some (d, δ1)) (hn : noal d = true) : purP m f δ = some (d, δ) := by
  unfold purP; rw [hm, h]; simp only [hn, if_true]
theorem au_pur {m : List Bool} {f : ME} {δ δ0 δ1 : DL.Env} {d : D} (hm : fzE (keepM m δ) = δ0) (h : f δ0 = some (d, δ1)) (hn : noal d = true) : pur m f δ = some (d, δ) := by
  unfold pur; rw [hm, h]; simp only [hn, if_true]
theorem au_purT {m : List Bool} {f : MT} {δ δ0 δ1 : DL.Env} {b : Bool} (hm : fzE (keepM m δ) = δ0) (h : f δ0 = some (b, δ1)) : purT m f δ = some (b, δ) := by
  unfold purT; rw [hm, h]
theorem au_kpur {m : List Bool} {f : ME} {δ δ0 δ1 : DL.Env} {d : D} (hm : fzE (keepM m δ) = δ0) (h : f δ0 = some (d, δ1)) (hn : noal d = true) : kPur m f δ = some d := by
  unfold kPur; rw [hm, h]; simp only [hn, if_true]
theorem au_kc {d : D} {δ : DL.Env} : kC d δ = some d := rfl
theorem au_ks0 {δ : DL.Env} : ksNil δ = some [] := rfl
theorem au_kss {a : MK} {r : MKs} {δ : DL.Env} {d : D} {ds : List D} (h : a δ = some d) (h2 : r δ = some ds) : ksCons a r δ = some (d :: ds) := by
  unfold ksCons; rw [h]; simp only [h2]
theorem au_pvar {δ : DL.Env} : pVar δ = some [] := rfl
theorem au_psub {a : MP} {b : MK} {δ : DL.Env} {p q : List Stp} {d : D} {k : Key} (ha : a δ = some p) (hb : b δ = some d) (hk : keyD d = some k) (hq : p ++ [.sub k] = q) : pSub a b δ = some q := by
  unfold pSub; rw [ha]; simp only [hb, hk, hq]
theorem au_pfld {a : MP} {cs : List Str} {n : Str} {δ : DL.Env} {p q : List Stp} (ha : a δ = some p) (hq : p ++ [.fld cs n] = q) : pFld a cs n δ = some q := by
  unfold pFld; rw [ha]; simp only [hq]
theorem au_path {i : Nat} {mp : MP} {δ δ' : DL.Env} {d t d' : D} {p : List Stp} (hd : δ[i]? = some (some d)) (hp : mp δ = some p) (hw : walk d p = some (t, d')) (hs : δ.set i (some d') = δ') : mPath i mp δ = some (t, δ') := by
  rw [ev_path hd hp hw, hs]
theorem au_w0 {d d' : D} (h : fz d = d') : walk d [] = some (d', d') := by
  rw [walk]
  split
  · rename_i q; rw [← h, fz_isFz d q]
  · rw [h]
theorem au_wt {ds : List D} {d : D} {n : Int} (hf : isFzs ds = true) (h : atI ds n = some d) : walk (.tup ds) [.sub (.inl n)] = some (d, .tup ds) := by
  unfold atI at h
  cases e : ixN ds.length n with
  | none => rw [e] at h; cases h
  | some j =>
    rw [e] at h
    exact walkF (d := .tup ds) hf (j := j) e h (walk_nilF (isFzs_iff.mp hf d (List.mem_of_getElem? h)))
theorem au_alt {a b : ME} {δ : DL.Env} {r : D × DL.Env} (h : a δ = some r) : mAlt a b δ = some r := ev_altE h
theorem au_ialt {a b : MI} {δ : DL.Env} {r : List D × DL.Env} (h : a δ = some r) : iAlt a b δ = some r := ev_altI h
theorem au_meth {T : String} {g : D → List D → Option (D × D)} {i : Nat} {r : ML} {δ δ1 δ2 : DL.Env} {d d1 d2 a : D} {ds : List D} (h0 : δ[i]? = some (some d)) (ht : tyD T d = true) (hr : r δ = some (ds, δ1)) (h1 : δ1[i]? = some (some d1)) (hg : g d1 ds = some (a, d2)) (hs : δ1.set i (some d2) = δ2) : mMeth T g i r δ = some (a, δ2) := by
  unfold mMeth
  rw [h0]
  simp only [ht, if_true, hr, h1, hg, hs]
theorem au_methV {T : String} {g : D → List D → Option D} {a : ME} {r : ML} {δ δ1 δ2 : DL.Env} {d x : D} {ds : List D} (h0 : a δ = some (d, δ1)) (ht : tyD T d = true) (hr : r δ1 = some (ds, δ2)) (hg : g d ds = some x) : mMethV T g a r δ = some (x, δ2) := by
  unfold mMethV
  rw [h0]
  simp only [ht, if_true, hr, hg]
theorem au_methW {T : String} {g : D → List D → Option D} {a : ME} {r : ML} {δ δ1 δ2 : DL.Env} {d x : D} {ds : List D} (h0 : a δ = some (d, δ1)) (ht : tyE T d = true) (hr : r δ1 = some (ds, δ2)) (hg : g d ds = some x) : mMethW T g a r δ = some (x, δ2) := by
  unfold mMethW
  rw [h0]
  simp only [ht, if_true, hr, hg]
theorem au_methP {T : String} {g : D → List D → Option (D × D)} {i : Nat} {mp : MP} {r : MKs} {δ δ2 : DL.Env} {d t t' u a : D} {p : List Stp} {ds : List D} (h0 : δ[i]? = some (some d)) (hp : mp δ = some p) (ha : atO d p = some t) (ht : tyD T t = true) (hr : r δ = some ds) (hg : g t ds = some (a, t')) (hu : putO d p t' = u) (hs : δ.set i (some u) = δ2) : mMethP T g i mp r δ = some (a, δ2) := by
  unfold mMethP
  rw [h0]
  simp only [hp, ha, ht, if_true, hr, hg, hu, hs]
theorem au_append {ds es : List D} {x : D} (h : Nat.blt ds.length 1000 = true) (he : ds ++ [x] = es) : gAppend (.lst true ds) [x] = some (.non, .lst true es) := by
  rw [gAppend_ok (Nat.lt_trans (au_lt h) (by decide)), he]
theorem au_put {i : Nat} {mp : MP} {k : MK} {e : ME} {δ δ1 δ2 : DL.Env} {dv d t t' dk u : D} {p : List Stp} (he : e δ = some (dv, δ1)) (hd : δ1[i]? = some (some d)) (hp : mp δ1 = some p) (hk : k δ1 = some dk) (ha : atO d p = some t) (hs : dSetIt t dk dv = some t') (hu : putO d p t' = u) (hz : δ1.set i (some u) = δ2) : sPut i mp k e δ = some (.nx δ2) := by
  unfold sPut
  rw [he]
  simp only [hd, hp, hk, ha, hs, hu, hz]
theorem au_putF {i : Nat} {mp : MP} {cs : List Str} {f : Str} {e : ME} {δ δ1 δ2 : DL.Env} {dv d t t' u : D} {p : List Stp} (he : e δ = some (dv, δ1)) (hd : δ1[i]? = some (some d)) (hp : mp δ1 = some p) (ha : atO d p = some t) (hs : dSetF cs f t dv = some t') (hu : putO d p t' = u) (hz : δ1.set i (some u) = δ2) : sPutF i mp cs f e δ = some (.nx δ2) := by
  unfold sPutF
  rw [he]
  simp only [hd, hp, ha, hs, hu, hz]
theorem au_args0 {δ : DL.Env} : mArgs [] δ = some ([], δ) := rfl
theorem au_argsV {i : Nat} {r : List AS} {rs : List AR} {δ δ1 : DL.Env} {d : D} (h : δ[i]? = some (some d)) (h2 : mArgs r δ = some (rs, δ1)) : mArgs (.v i :: r) δ = some (.v i :: rs, δ1) := by
  unfold mArgs; rw [h]; simp only [h2]
theorem au_argsE {m : ME} {r : List AS} {rs : List AR} {δ δ1 δ2 : DL.Env} {d : D} (h : m δ = some (d, δ1)) (h2 : mArgs r δ1 = some (rs, δ2)) : mArgs (.e m :: r) δ = some (.e d :: rs, δ2) := by
  unfold mArgs; rw [h]; simp only [h2]
theorem au_lend0 {δ : DL.Env} : lend [] δ = some ([], δ) := rfl
theorem au_lendE {r : List AR} {ls : List (D × Option Nat)} {δ δ1 : DL.Env} {d : D} (h : lend r δ = some (ls, δ1)) : lend (.e d :: r) δ = some ((d, none) :: ls, δ1) := by
  unfold lend; simp only [h]
theorem au_lendO {i : Nat} {r : List AR} {ls : List (D × Option Nat)} {δ δ1 δ2 : DL.Env} {d : D} (h0 : δ[i]? = some (some d)) (hf : isFz d = false) (hs : δ.set i none = δ1) (h : lend r δ1 = some (ls, δ2)) : lend (.v i :: r) δ = some ((d, some i) :: ls, δ2) := by
  unfold lend; rw [h0]; simp only [hf, hs, h]; rfl
theorem au_lendF {i : Nat} {r : List AR} {ls : List (D × Option Nat)} {δ δ2 : DL.Env} {d : D} (h0 : δ[i]? = some (some d)) (hf : isFz d = true) (h : lend r δ = some (ls, δ2)) : lend (.v i :: r) δ = some ((d, none) :: ls, δ2) := by
  unfold lend; rw [h0]; simp only [hf, h]; rfl
def firsts : List (D × Option Nat) → List D → List D
  | [], dd => dd
  | p :: ls, dd => p.1 :: firsts ls dd
theorem firsts_eq : ∀ (ls : List (D × Option Nat)) (dd : List D), firsts ls dd = ls.map (·.1) ++ dd
  | [], _ => rfl
  | p :: ls, dd => by simp only [firsts, firsts_eq ls, List.map_cons, List.cons_append]
theorem au_fst0 {dd : List D} : firsts [] dd = dd := rfl
theorem au_fsts {d : D} {o : Option Nat} {ls : List (D × Option Nat)} {dd es : List D} (h : firsts ls dd = es) : firsts ((d, o) :: ls) dd = d :: es := by rw [← h]; rfl
theorem au_rs0 {ds : List D} {δ : DL.Env} : restore [] ds δ = δ := by unfold restore; rfl
theorem au_rsO {i : Nat} {d0 d : D} {ls : List (D × Option Nat)} {ds : List D} {δ δ1 δ2 : DL.Env} (hs : δ.set i (some d) = δ1) (h : restore ls ds δ1 = δ2) : restore ((d0, some i) :: ls) (d :: ds) δ = δ2 := by rw [← h, ← hs]; rfl
theorem au_rsN {d0 d : D} {ls : List (D × Option Nat)} {ds : List D} {δ δ2 : DL.Env} (h : restore ls ds δ = δ2) : restore ((d0, none) :: ls) (d :: ds) δ = δ2 := by rw [← h]; rfl
theorem au_call {m : DL.MF} {as : List AS} {dd xs : List D} {rs : List AR} {ls : List (D × Option Nat)} {δ δ1 δ2 δ' : DL.Env} {r : D} {ds' : List D} (ha : mArgs as δ = some (rs, δ1)) (hl : lend rs δ1 = some (ls, δ2)) (hx : firsts ls dd = xs) (hm : m xs = some (r, ds')) (hn : Nat.beq ds'.length (ls.length + dd.length) = true) (hr : restore ls ds' δ2 = δ') : mCall m as dd δ = some (r, δ') := by
  rw [firsts_eq] at hx
  unfold mCall
  rw [ha]
  simp only [hl, hx, hm]
  rw [if_pos (Nat.eq_of_beq_eq_true hn), hr]
theorem au_make {c : Str} {m : DL.MF} {as : List AS} {dd xs : List D} {rs : List AR} {ls : List (D × Option Nat)} {δ δ1 δ2 δ' : DL.Env} {self : D} {ds' : List D} (ha : mArgs as δ = some (rs, δ1)) (hl : lend rs δ1 = some (ls, δ2)) (hx : firsts ls dd = xs) (hm : m (.obj true c [] [] :: xs) = some (.non, self :: ds')) (hn : Nat.beq ds'.length (ls.length + dd.length) = true) (hr : restore ls ds' δ2 = δ') : mMake c m as dd δ = some (self, δ') := by
  rw [firsts_eq] at hx
  unfold mMake
  rw [ha]
  simp only [hl, hx, hm]
  rw [if_pos (Nat.eq_of_beq_eq_true hn), hr]
theorem au_methOv {nm c : Str} {tab : List (Str × DL.MF × List D)} {i : Nat} {as : List AS} {δ : DL.Env} {o : Bool} {ns : List Str} {vs dd : List D} {m : DL.MF} {r : Option (D × DL.Env)} (h : δ[i]? = some (some (.obj o c ns vs))) (hn : ns.contains nm = false) (ht : tab.lookup c = some (m, dd)) (hc : mCall m (.v i :: as) dd δ = r) : mMethO nm tab (.v i) as δ = r := by
  unfold mMethO
  simp only [h, hn, ht, hc]
  rfl
theorem au_methOe {nm c : Str} {tab : List (Str × DL.MF × List D)} {me : ME} {as : List AS} {δ δ1 : DL.Env} {o : Bool} {ns : List Str} {vs dd : List D} {m : DL.MF} {r : Option (D × DL.Env)} (h : me δ = some (.obj o c ns vs, δ1)) (hn : ns.contains nm = false) (ht : tab.lookup c = some (m, dd)) (hc : mCall m (.e (fun _ => some (.obj o c ns vs, δ1)) :: as) dd δ = r) : mMethO nm tab (.e me) as δ = r := by
  unfold mMethO
  simp only [h, hn, ht, hc]
  rfl
theorem au_perm {ord inv : List Nat} {m : DL.MF} {ds ds0 ds' es : List D} {r : D} (h0 : pm ord ds = ds0) (h : m ds0 = some (r, ds')) (hn : Nat.beq ds'.length ord.length = true) (h1 : pm inv ds' = es) : mPerm ord inv m ds = some (r, es) := by
  unfold mPerm
  rw [h0, h]
  simp only [if_pos (Nat.eq_of_beq_eq_true hn), h1]
theorem au_sl {a : ME} {lo hi : MO} {δ δ1 δ2 δ3 : DL.Env} {x d : D} {l h : Option Int} (h1 : a δ = some (x, δ1)) (h2 : lo δ1 = some (l, δ2)) (h3 : hi δ2 = some (h, δ3)) (hd : dSl x l h = some d) : mSl a lo hi δ = some (d, δ3) := by
  unfold mSl
  simp only [h1, h2, h3, hd]
theorem au_onone {δ : DL.Env} : oNone δ = some (none, δ) := rfl
theorem au_osome {m : ME} {δ δ1 : DL.Env} {i : Int} (h : m δ = some (.int i, δ1)) : oSome m δ = some (some i, δ1) := ev_some h
theorem au_listZip {r : ML} {δ δ1 : DL.Env} {d e : D} {ds es fs : List D} (h : r δ = some ([d, e], δ1)) (h1 : seqD d = some ds) (h2 : seqD e = some es) (hl : min ds.length es.length ≤ sizeLine) (hf : zipD (fzs ds) (fzs es) = fs) : mListZip r δ = some (.lst true fs, δ1) := by
  unfold mListZip
  rw [h]
  simp only [h1, h2, hl, if_true, hf]
theorem au_zip {r : ML} {δ δ1 : DL.Env} {d e : D} {ds es fs : List D} (h : r δ = some ([d, e], δ1)) (h1 : seqD d = some ds) (h2 : seqD e = some es) (hf : zipD (fzs ds) (fzs es) = fs) : iZip2 r δ = some (fs, δ1) := by
  unfold iZip2
  rw [h]
  simp only [h1, h2, hf]
theorem au_pairs0 {δ : DL.Env} : mPairs [] δ = some ([], δ) := rfl
theorem au_pairss {mk mv : ME} {r : MPs} {δ δ1 δ2 δ3 : DL.Env} {k d : D} {kk : Key} {ps : List (Key × D)} (h1 : mk δ = some (k, δ1)) (h2 : keyD k = some kk) (h3 : mv δ1 = some (d, δ2)) (h4 : mPairs r δ2 = some (ps, δ3)) : mPairs ((mk, mv) :: r) δ = some ((kk, d) :: ps, δ3) := by
  unfold mPairs
  simp only [h1, h2, h3, h4]
def envOf : List D → Nat → DL.Env
  | d :: ds, k => some d :: envOf ds k
  | [], k + 1 => none :: envOf [] k
  | [], 0 => []
theorem envOf_eq : ∀ (ds : List D) (k : Nat), envOf ds k = ds.map some ++ List.replicate k none
  | d :: ds, k => by simp only [envOf, envOf_eq ds k, List.map_cons, List.cons_append]
  | [], k + 1 => by simp only [envOf, envOf_eq [] k, List.map_nil, List.nil_append, List.replicate_succ]
  | [], 0 => by simp only [envOf, List.map_nil, List.nil_append, List.replicate_zero]
theorem au_fin {np N k : Nat} {P : Nat → Bool} {b : MS} {ds ds' : List D} {δ0 δ : DL.Env} {r : D} (hl : ds.length = np) (hk : N - np = k) (h0 : envOf ds k = δ0) (h : b δ0 = some (.rt r δ)) (hb : backs P 0 ds δ = some ds') : mFun np N P b ds = some (r, ds') := by
  rw [envOf_eq] at h0
  unfold mFun
  rw [if_pos hl, hk, h0, h]
  simp only [hb]
end DL
namespace DL
open PySem.Spec PySem L2 PyProof.Rows
theorem au_pand {k q : Bool} {x : Option (Bool × DL.Env)} {δ : DL.Env} (h : k = true → x = some (q, δ)) : pick2 k x (some (false, δ)) = some (k && q, δ) := by
  cases k
  · rfl
  · rw [h rfl]; rfl
theorem au_por {k q : Bool} {x : Option (Bool × DL.Env)} {δ : DL.Env} (h : k = false → x = some (q, δ)) : pick2 k (some (true, δ)) x = some (k || q, δ) := by
  cases k
  · rw [h rfl]; rfl
  · rfl
theorem au_pmand {k q : Bool} {x : Option (D × DL.Env)} {δ : DL.Env} (h : k = true → x = some (.bl q, δ)) : pick2 k x (some (.bl k, δ)) = some (.bl (k && q), δ) := by
  cases k
  · rfl
  · rw [h rfl]; rfl
theorem au_pmor {k q : Bool} {x : Option (D × DL.Env)} {δ : DL.Env} (h : k = false → x = some (.bl q, δ)) : pick2 k (some (.bl k, δ)) x = some (.bl (k || q), δ) := by
  cases k
  · rw [h rfl]; rfl
  · rfl
theorem au_pval {k : Bool} {u v : D} {x y : Option (D × DL.Env)} {δ : DL.Env} (h1 : x = some (u, δ)) (h2 : y = some (v, δ)) : pick2 k x y = some (if k = true then u else v, δ) := by
  cases k
  · exact h2
  · exact h1
theorem au_xx {δ : DL.Env} {b : Bool} : some (b, δ) = some (b, δ) := rfl
theorem gS {o p : Option Fl} (h : o = p) : o = p := h
theorem gE {o p : Option (D × DL.Env)} (h : o = p) : o = p := h
theorem gT {o p : Option (Bool × DL.Env)} (h : o = p) : o = p := h
theorem gL {o p : Option (List D × DL.Env)} (h : o = p) : o = p := h
theorem gA {o p : Option (List AR × DL.Env)} (h : o = p) : o = p := h
theorem gN {o p : Option (List (D × Option Nat) × DL.Env)} (h : o = p) : o = p := h
theorem gK {o p : Option D} (h : o = p) : o = p := h
theorem gP {o p : Option (List Stp)} (h : o = p) : o = p := h
theorem gV {o p : DL.Env} (h : o = p) : o = p := h
theorem gZ {o p : D} (h : o = p) : o = p := h
theorem gD {o p : List D} (h : o = p) : o = p := h
theorem gM {o p : Option (D × List D)} (h : o = p) : o = p := h
theorem gW {o p : Option (D × D)} (h : o = p) : o = p := h
theorem gG {o p : Option DL.Env} (h : o = p) : o = p := h
theorem gO {o p : Option (Option Int × DL.Env)} (h : o = p) : o = p := h
theorem gQ {o p : List Stp} (h : o = p) : o = p := h
theorem gR {o p : Option (List (Key × D) × DL.Env)} (h : o = p) : o = p := h
theorem gProp {p : Prop} (h : p) : p := h
theorem gC {o p : Option (List D)} (h : o = p) : o = p := h
end DL
namespace DL
theorem au_e1 {d : D} {ds : List D} {k : Nat} {δ : DL.Env} (h : envOf ds k = δ) : envOf (d :: ds) k = some d :: δ := by rw [← h]; simp only [envOf]
theorem au_en {k : Nat} {δ : DL.Env} (h : envOf [] k = δ) : envOf [] (k + 1) = none :: δ := by rw [← h]; simp only [envOf]
theorem au_e0 : envOf [] 0 = [] := by simp only [envOf]
end DL
namespace DL
open PySem.Spec PySem L2 PyProof.Rows
theorem au_anyL {m : ME} {δ δ1 : DL.Env} {o : Bool} {ds es : List D} (h : m δ = some (.lst o ds, δ1)) (hf : fzs ds = es) : iAny m δ = some (es, δ1) := by rw [iAny_lst h, hf]
theorem au_enum {r : ML} {δ δ1 : DL.Env} {d : D} {ds es : List D} (h : r δ = some ([d], δ1)) (h1 : seqD d = some ds) (hf : enumF 0 (fzs ds) = es) : iEnum2 r δ = some (es, δ1) := by
  unfold iEnum2
  rw [h]
  simp only [h1, hf]
end DL
set_option Elab.async false
set_option linter.all false
set_option maxRecDepth 100000
set_option maxHeartbeats 4000001
namespace DL
open PySem.Spec PySem L2 PyProof.Rows
section
variable {K : PySem.W.Frag} {mg : Str → Option Value}
/-- the class object of an own exception over ValueError whose __init__ is its own -/
def excObjB (K : PySem.W.Frag) (C : Addr) : Bool := match K.lookup C with
  | some ⟨.type "type", _, .cls cd, sl⟩ => (match cd.mro, sl.toList with
    | .ref C1 :: bm, [_, _, _, _, some (.builtin n), _] => decide (C1 = C) && (decide (n = "ValueError.__new__") && (!cd.hasDel && (cd.hasDict && PySem.HandSPX.refsVE bm)))
    | _, _ => false)
  | _ => false
theorem excObj_of {C : Addr} (h : excObjB K C = true) : ∃ nm q N bs bm sn sub ab col dd k0 k1 k2 k3 k5, K.lookup C = some (excClassObj nm q C N bs bm true sn sub ab col dd k0 k1 k2 k3 k5 "ValueError.__new__") ∧ PySem.HandSPX.refsVE bm = true := by
  unfold excObjB at h
  split at h
  · rename_i dd cd sl e
    rcases cd with ⟨nm, bs, mro, N, q, hd, sn, sub, ab, col, del⟩
    rcases sl with ⟨sl⟩
    dsimp only at h
    split at h
    · simp only [decide_eq_true_eq, Bool.and_eq_true, Bool.not_eq_true'] at h
      obtain ⟨rfl, rfl, rfl, rfl, r⟩ := h
      exact ⟨_, _, _, _, _, _, _, _, _, _, _, _, _, _, _, e, r⟩
    · exact nomatch h
  · exact nomatch h
def oexB (K : PySem.W.Frag) (C : Addr) : Bool := excObjB K C && (decide (PySem.W.findIn K (.ref C) "__setattr__" = some (some (.builtin "object.__setattr__"))) && (decide (PySem.W.subIn K (.ref C) (.type "BaseException") = some true) && (decide (PySem.W.typeIn K (.ref C) = some (.type "type")) && PySem.W.keepIn K (.ref C))))
theorem oex_of {C : Addr} (h : oexB K C = true) : OexC K C := by
  simp only [oexB, decide_eq_true_eq, Bool.and_eq_true] at h
  exact ⟨excObj_of h.1, h.2.1, h.2.2.1, h.2.2.2.1, h.2.2.2.2⟩
/-- an exception class whose __init__ takes one argument and keeps it as f -/
structure OneF (K : PySem.W.Frag) (C fI : Addr) (f : Str) : Prop where
  ox : OexC K C
  init : PySem.W.findIn K (.ref C) "__init__" = some (some (.ref fI))
  fn : PySem.W.typeIn K (.ref fI) = some (.type "function")
  no : PySem.W.findIn K (.ref C) f = some none
def oneFB (K : PySem.W.Frag) (c f : Str) : Bool := oexB K (He.ga K c) && (decide (PySem.W.findIn K (.ref (He.ga K c)) "__init__" = some (some (.ref (He.ma K (He.ga K c) "__init__")))) && (decide (PySem.W.typeIn K (.ref (He.ma K (He.ga K c) "__init__")) = some (.type "function")) && decide (PySem.W.findIn K (.ref (He.ga K c)) f = some none)))
theorem oneF_of {c f : Str} (h : oneFB K c f = true) : OneF K (He.ga K c) (He.ma K (He.ga K c) "__init__") f := by
  simp only [oneFB, decide_eq_true_eq, Bool.and_eq_true] at h
  exact ⟨oex_of h.1, h.2.1, h.2.2.1, h.2.2.2⟩
/-- what isinstance asks of an exception class -/
def excQB (K : PySem.W.Frag) (C : Addr) : Bool := decide (PySem.W.findIn K (.ref C) "__getattribute__" = some (some (.builtin "BaseException.__getattribute__"))) && (decide (PySem.W.findIn K (.ref C) "__getattr__" = some none) && (decide (PySem.W.subIn K (.ref C) (.type "BaseException") = some true) && (PySem.W.hasDictIn K C &&
  (decide (PySem.W.findIn K (.ref C) "__class__" = some (some (.builtin "object.__class__"))) && (decide (PySem.W.specialIn K (.builtin "object.__class__") "__get__" = some (some (.builtin "getset_descriptor.__get__"))) && (decide (PySem.W.takesIn K (.builtin "object.__class__") = some true) && (decide (PySem.W.mroIn K C (.type "object") = some true) &&
  (decide (PySem.W.kitOne K (.ref C) (.type "ValueError") = some true) && Tns.all fun T => decide (PySem.W.kitOne K (.type T) (.ref C) = some false)))))))))
structure ExcQ (K : PySem.W.Frag) (C : Addr) : Prop where
  ec : ExcC K C
  ve : PySem.W.kitOne K (.ref C) (.type "ValueError") = some true
  tn : ∀ T ∈ Tns, PySem.W.kitOne K (.type T) (.ref C) = some false
theorem excQ_of {C : Addr} (h : excQB K C = true) : ExcQ K C := by
  simp only [excQB, decide_eq_true_eq, Bool.and_eq_true] at h
  obtain ⟨a1, a2, a3, a4, a5, a6, a7, a8, a9, a10⟩ := h
  exact ⟨⟨a1, a2, a3, a4, a5, a6, a7, a8⟩, a9, fun T m => of_decide_eq_true (List.all_eq_true.mp a10 T m)⟩
/-- the table of the exception classes: each with those above it -/
def excAB (K : PySem.W.Frag) (es : CT) : Bool := es.all fun p => excQB K (He.ga K p.1) && es.all fun q => decide (PySem.W.kitOne K (.ref (He.ga K p.1)) (.ref (He.ga K q.1)) = some (decide (p.1 = q.1) || p.2.contains q.1))
structure ExA (K : PySem.W.Frag) (mg : Str → Option Value) (es : CT) : Prop where
  one : ∀ c bs, es.lookup c = some bs → ∃ C, mg c = some (.ref C) ∧ ExcQ K C
  two : ∀ c bs x bx C C', es.lookup c = some bs → es.lookup x = some bx → mg c = some (.ref C) → mg x = some (.ref C') → PySem.W.kitOne K (.ref C) (.ref C') = some (decide (c = x) || bs.contains x)
theorem exA_of {es : CT} (c : excAB K es = true) (hg : ∀ p ∈ es, mg p.1 = some (.ref (He.ga K p.1))) : ExA K mg es := by
  have both : ∀ p ∈ es, excQB K (He.ga K p.1) = true ∧ ∀ q ∈ es, PySem.W.kitOne K (.ref (He.ga K p.1)) (.ref (He.ga K q.1)) = some (decide (p.1 = q.1) || p.2.contains q.1) := fun p hp => by
    have z := List.all_eq_true.mp c p hp
    rw [Bool.and_eq_true] at z
    exact ⟨z.1, fun q hq => of_decide_eq_true (List.all_eq_true.mp z.2 q hq)⟩
  constructor
  · exact fun c bs hl => ⟨_, hg _ (lookup_mem hl), excQ_of (both _ (lookup_mem hl)).1⟩
  · intro c bs x bx C C' hl hx hC hC'
    cases (hg _ (lookup_mem hl)).symm.trans hC
    cases (hg _ (lookup_mem hx)).symm.trans hC'
    exact (both _ (lookup_mem hl)).2 _ (lookup_mem hx)
end
def dIsF (es ct : CT) : List D → Option D
  | [.exc c _ _, .glo x] => if inT es c && inT es x then some (.bl (subT es c x)) else none
  | [.non, .glo x] => if inT es x then some (.bl false) else dIsO ct [.non, .glo x]
  | ds => dIsO ct ds
/-- an exception that stands at the head, as H holds it -/
theorem Sp.excAt {K : PySem.W.Frag} {mg : Str → Option Value} {H Hb : Hp} {Z : Addr → Prop} {P : PL} {v : V} {c : Str} {ns : List Str} {ds : List D} (s : Sp K mg Z Hb H ((v, .exc c ns ds) :: P)) :
    ∃ a C d fs, v = .ref a ∧ mg c = some (.ref C) ∧ H a = some (ExV (.ref C) d a) ∧ ((d = none ∧ fs = []) ∨ ∃ dd, d = some dd ∧ H dd = some (.xd fs)) ∧ fs.map (·.1) = ns ∧ ∃ Y F, Reps K mg H Y (fs.map (·.2)) ds F := by
  obtain ⟨Y, F, r⟩ := s.head
  cases r with
  | @exc a C d fs _ _ _ hA z hC alt hn t => exact ⟨a, C, d, fs, rfl, hC, hA, alt.imp id fun ⟨dd, e, _, h, _⟩ => ⟨dd, e, h⟩, hn, Y, _, t⟩
theorem bc_isF {X : Cx} {es ct : CT} (T : ExA X.K X.mg es) (T2 : ClsT X.K X.mg ct) : BC X (.builtin "isinstance") (dIsF es ct) := by
  intro Z Hb H P vs ds d hl s e Q q
  unfold dIsF at e
  split at e
  · rename_i c ns ws x
    split at e
    · rename_i hin
      cases e
      rw [Bool.and_eq_true] at hin
      obtain ⟨bs, hb⟩ := Option.isSome_iff_exists.mp (show (es.lookup c).isSome = true from hin.1)
      obtain ⟨bx, hx⟩ := Option.isSome_iff_exists.mp (show (es.lookup x).isSome = true from hin.2)
      match vs, hl with
      | [v, w], _ =>
        have s0 : Sp X.K X.mg Z Hb H ((v, .exc c ns ws) :: (w, .glo x) :: P) := s
        obtain ⟨C', rfl, hC'⟩ := s0.drop.gloA
        obtain ⟨a, C, dd, fs, rfl, hC, hA, alt, _⟩ := s0.excAt
        obtain ⟨C1, hC1, O⟩ := T.one c bs hb
        cases hC.symm.trans hC1
        have k := T.two c bs x bx C C' hb hx hC hC'
        rw [show subT es c x = (decide (c = x) || bs.contains x) by unfold subT; rw [hb]; rfl] at q
        exact wC_of call_isF ⟨a, C, dd, fs, .ref C', .ref C', _, rfl, hA, alt, O.ec, .own C', k, q _ _ (s0.drop.drop.put fun _ => .bl)⟩
    · exact nomatch e
  · rename_i x
    split at e
    · rename_i hin
      cases e
      obtain ⟨bx, hx⟩ := Option.isSome_iff_exists.mp (show (es.lookup x).isSome = true from hin)
      match vs, hl with
      | [v, w], _ =>
        have s0 : Sp X.K X.mg Z Hb H ((v, .non) :: (w, .glo x) :: P) := s
        obtain ⟨C', rfl, hC'⟩ := s0.drop.gloA
        cases s0.non
        obtain ⟨C1, hC1, O⟩ := T.one x bx hx
        cases hC'.symm.trans hC1
        exact wC_of call_isi ⟨.non, .ref C', .type "NoneType", .ref C', _, rfl, .own C', .base .non, O.tn _ (by decide), q _ _ (s0.drop.drop.put fun _ => .bl)⟩
    · exact bc_isO T2 hl s e Q q
  · exact bc_isO T2 hl s e Q q
/-- isinstance(e, ValueError), e an own exception -/
def mIsVE (es : CT) (m : ME) : ME := fun δ => match m δ with
  | some (.exc c _ _, δ1) => if inT es c then some (.bl true, δ1) else none
  | _ => none
section
variable {X : Cx} {e : Expr} {m : ME} {es ct : CT} {p p2 pos : Pos}
theorem x_isVE (T : ExA X.K X.mg es) (hm : X.mg "isinstance" = none) (hm2 : X.mg "ValueError" = none) (he : IG X e m) (hg : Gl X "isinstance" := by rfl) (hg2 : Gl X "ValueError" := by rfl)
    (hs : starEach [e, .Name "ValueError" p2] X.env = (false, eval e X.env) :: starEach [.Name "ValueError" p2] X.env := by rfl) (hs2 : starEach [.Name "ValueError" p2] X.env = (false, eval (.Name "ValueError" p2) X.env) :: starEach [] X.env := by rfl)
    (hpl : (backTo pos (starEach [.Name "ValueError" p2] X.env)).any (·.1) = false := by rfl) : IG X (.Call (.Name "isinstance" p) [e, .Name "ValueError" p2] [] pos) (mIsVE es m) := by
  intro Z Hb H σ δ L d δ' s e' Q q
  unfold mIsVE at e'
  split at e'
  · rename_i c ns ds δ1 e1
    split at e'
    · rename_i hin
      cases e'
      obtain ⟨bs, hb⟩ := Option.isSome_iff_exists.mp (show (es.lookup c).isSome = true from hin)
      refine wE_of (pe_callB call_isF hg hm (by rfl) (pa_cons pe_w (pa_cons (pe_bltn (v := .ty "ValueError") hg2 hm2 (by rfl) rfl (by decide) (by decide)) pa_nil hs2) hs) (by decide) (by decide) hs hpl) ?_
      refine he s e1 _ fun v H1 s1 => ?_
      obtain ⟨a, C, dd, fs, rfl, hC, hA, alt, _⟩ := s1.sp.excAt
      obtain ⟨C1, hC1, O⟩ := T.one c bs hb
      cases hC.symm.trans hC1
      exact ⟨a, C, dd, fs, .ty "ValueError", .type "ValueError", true, rfl, hA, alt, O.ec, .ty _, O.ve, q _ _ ⟨s1.sp.drop.put fun _ => .bl, s1.dom⟩⟩
    · exact nomatch e'
  · exact nomatch e'
def mXF (cs : List Str) (f : Str) (m : ME) : ME := fun δ => match m δ with
  | some (.exc c ns ds, δ1) => if cs.contains c then match posOf ns f with
    | some j => match ds[j]? with
      | some d => some (fz d, δ1)
      | none => none
    | none => none else none
  | _ => none
/-- the classes of cs know no f of their own -/
def AtX (K : PySem.W.Frag) (mg : Str → Option Value) (cs : List Str) (f : Str) : Prop := ∀ c ∈ cs, ∀ C, mg c = some (.ref C) → ExcC K C ∧ PySem.W.findIn K (.ref C) f = some none
def tXa (K : PySem.W.Frag) (f : Str) (te : TE) : TE := fun σ H Q => te σ H fun x H1 => ∃ a D d fs v, x = .ref a ∧ H1 a = some (ExV (.ref D) d a) ∧ ((d = none ∧ fs = []) ∨ ∃ dd, d = some dd ∧ H1 dd = some (.xd fs)) ∧ ExcC K D ∧ PySem.W.findIn K (.ref D) f = some none ∧ fs.lookup f = some v ∧ Q v H1
theorem pe_xa {f : Str} {te : TE} (he : PE X e te) (hb : attributeBase e f X.env (eval e X.env) = eval e X.env) : PE X (.Attribute e f pos) (tXa X.K f te) := by
  constructor
  intro pins s σ H Q I h
  apply attr_of hb
  refine wpAny_mono (he.run pins s σ H _ I h) ?_ fun _ _ z => z
  rintro _ s1 ⟨_, H1, I1, rx, a, D, d, fs, v, rfl, ha, alt, C, no, l, q⟩
  cases rx
  obtain ⟨ox, od, J, look⟩ := exV_inst I1.hok ha alt
  obtain ⟨o, u, rfl, hu, ru⟩ := look f v l
  exact PySem.HandSPX.exc_get I1.kIn J C.hg C.hk C.hs (PySem.W.findObj_own C.hd no rfl hu) (handed_of ru) ⟨v, H1, I1.tok _, ru, q⟩
/-- the class and the dict's place stand in what H says -/
theorem exV_inj {c1 c2 : Value} {d1 d2 : Option Addr} {a : Addr} (h : ExV c1 d1 a = ExV c2 d2 a) : c1 = c2 ∧ d1 = d2 := by
  have ex : ∃ o : Obj, o = { cls := c1, dict := d1, data := .fields #[] } := ⟨_, rfl⟩
  obtain ⟨o, eo⟩ := ex
  have there : Heap.get? ⟨Array.replicate (a + 1) o, {}⟩ a = some o := by
    rw [Heap.get?_some_iff, eo]
    exact ⟨by simp [Array.getElem?_replicate], rfl⟩
  have ok : (fun h : Heap => ∃ (oe : Obj) (vs : Array Value), h.get? a = some oe ∧ Zc c1 d1 oe ∧ oe.data = .fields vs) ⟨Array.replicate (a + 1) o, {}⟩ := ⟨o, #[], there, by rw [eo]; exact ⟨rfl, rfl⟩, by rw [eo]⟩
  rw [HO.ext.inj h] at ok
  obtain ⟨oe, vs, e, ⟨z1, z2⟩, _⟩ := ok
  cases there.symm.trans e
  rw [eo] at z1 z2
  exact ⟨z1, z2⟩
theorem look_at {f : Str} : ∀ {fs : List (Str × V)} {j : Nat} {v : V}, posOf (fs.map (·.1)) f = some j → (fs.map (·.2))[j]? = some v → fs.lookup f = some v := fun h e => posOf_look h e
theorem x_xf {f : Str} (cs : List Str) (h : IG X e m) (hc : AtX X.K X.mg cs f) (hb : attributeBase e f X.env (eval e X.env) = eval e X.env := by rfl) : IG X (.Attribute e f pos) (mXF cs f m) := by
  intro Z Hb H σ δ L d δ' s e' Q q
  unfold mXF at e'
  split at e'
  · rename_i c ns ds δ1 e1
    split at e'
    · rename_i hcs
      split at e'
      · rename_i j hj
        split at e'
        · rename_i d0 hd
          cases e'
          refine wE_of (pe_xa pe_w hb) (h s e1 _ fun x H1 s1 => ?_)
          have s2 : Sp X.K X.mg Z Hb H1 ((x, .exc c ns (fzs ds)) :: (L ++ prs σ δ')) := Sp.freeze s1.sp
          obtain ⟨Y, F, r⟩ := s2.head
          cases r with
          | @exc a C dd fs _ _ _ hA z hC alt hn t =>
            obtain ⟨w, e2, _⟩ := Reps.get t (i := j) (d := fz d0) (fzs_get hd)
            subst hn
            obtain ⟨c1, c2⟩ := hc c (by simpa using hcs) C hC
            refine ⟨a, C, dd, fs, w, rfl, hA, alt.imp id (fun ⟨b, e, _, h, _⟩ => ⟨b, e, h⟩), c1, c2, look_at hj e2, q w H1 ⟨?_, s1.dom⟩⟩
            have s3 := s2.part (show isFz (.exc c (fs.map (·.1)) (fzs ds)) = true from isFz_fz (.exc c (fs.map (·.1)) ds)) (w := w) (t := fz d0) fun Y' r' => by
              cases r' with
              | @exc a' C' d' fs' _ _ _ hA' z' hC' alt' hn' t' =>
                obtain ⟨w', e3, r3⟩ := Reps.get t' (i := j) (d := fz d0) (fzs_get hd)
                have : fs' = fs := by
                  rcases alt with ⟨rfl, rfl⟩ | ⟨b, rfl, _, hb, _⟩
                  · exact List.map_eq_nil_iff.mp hn'
                  · rcases alt' with ⟨rfl, rfl⟩ | ⟨b', rfl, _, hb', _⟩
                    · exact (List.map_eq_nil_iff.mp hn'.symm).symm
                    · obtain ⟨_, eb⟩ := exV_inj (Option.some.inj (hA.symm.trans hA'))
                      cases eb
                      cases hb.symm.trans hb'
                      rfl
                subst this
                rw [e2] at e3
                cases e3
                exact r3
            exact (s3.perm (.swap _ _ _)).drop
        · exact nomatch e'
      · exact nomatch e'
    · exact nomatch e'
  · exact nomatch e'
end
end DL
set_option Elab.async false
set_option linter.all false
set_option maxRecDepth 100000
set_option maxHeartbeats 4000001
namespace DL
open PySem.Spec PySem L2 PyProof.Rows
def mExc0 (c : Str) (m : ME) : ME := fun δ => match m δ with
  | some (_, δ1) => some (.exc c [] [], δ1)
  | none => none
def mExcF (c f : Str) (m : ME) : ME := fun δ => match m δ with
  | some (d, δ1) => some (.exc c [f] [fz d], δ1)
  | none => none
/-- classes without an __init__ of their own -/
def ExP (K : PySem.W.Frag) (mg : Str → Option Value) (pl : List Str) : Prop := ∀ c ∈ pl, ∃ C, mg c = some (.ref C) ∧ ExOne K C
theorem exP_of {K : PySem.W.Frag} {mg : Str → Option Value} {pl : List Str} (h : (pl.all fun c => excOneB K (He.ga K c)) = true) (hg : ∀ c ∈ pl, mg c = some (.ref (He.ga K c))) : ExP K mg pl :=
  fun c m => ⟨_, hg c m, exOne_of (List.all_eq_true.mp h c m)⟩
structure CalE (P : Program) (w : World) (K : PySem.W.Frag) (mg : Str → Option Value) (base : Heap) (k : Nat) (c f g : Str) : Prop where
  ex : ∃ (C fI : Addr) (fd : FuncData) (self : Str), mg c = some (.ref C) ∧ OneF K C fI f ∧ FnOk P w K mg base C8.CX0 k fI fd [self, g] (spI C f) ∧ Binds K fd [self, g] [] ∧ ∀ (s : Shared) (o u : Value), K.In s.heap → BindsTo s fd ⟨[o], [(g, u)]⟩ [(self, o), (g, u)]
section
variable {X : Cx} {e : Expr} {m : ME} {p pos : Pos} {x f g : Str} {k : Nat}
theorem x_exc0 (pl : List Str) (T : ExP X.K X.mg pl) (he : IG X e m) (hx : x ∈ pl := by decide) (hg : Gl X x := by rfl) (hs : starEach [e] X.env = (false, eval e X.env) :: starEach [] X.env := by rfl) (hdb : (x == ("__debug__" : Str)) = false := by decide) : IG X (.Call (.Name x p) [e] [] pos) (mExc0 x m) := by
  intro Z Hb H σ δ L d δ' s e' Q q
  unfold mExc0 at e'
  split at e'
  · rename_i d0 δ1 e1
    cases e'
    obtain ⟨C, hC, O⟩ := T x hx
    refine wE_of (pe_kept (SkE.pmk_own1 PySem.F.excBase_ValueError O.ei hC O.kp (raises_own O.sb O.ty) hg pe_w hs hdb)) ?_
    exact he s e1 _ fun v H1 s1 a na => q _ _ ⟨Sp.exc0 s1.sp.drop na hC, s1.dom⟩
  · exact nomatch e'
/-- the dict that the __init__ leaves, and the exception over it -/
theorem Sq.kept {Z : Addr → Prop} {Hb H1 : Hp} {σ : L2.St} {δ1 : Env} {L : PL} {v : V} {d : D} {a C dx : Addr} {c f : Str} (s1 : Sq X Z Hb H1 σ δ1 ((v, d) :: L)) (nd : H1 dx = none) (na : upd H1 dx (.xd [(f, v)]) a = none) (hC : X.mg c = some (.ref C)) :
    Sq X Z Hb (upd (upd H1 dx (.xd [(f, v)])) a (ExV (.ref C) (some dx) a)) σ δ1 ((.ref a, .exc c [f] [fz d]) :: L) := by
  have s2 : Sp X.K X.mg Z Hb H1 ((v, fz d) :: (L ++ prs σ δ1)) := Sp.freeze s1.sp
  have s3 : Sp X.K X.mg Z Hb (upd H1 dx (.xd [(f, v)])) ((.ref dx, .raw true (.xd [(f, v)])) :: ((v, fz d) :: (L ++ prs σ δ1))) := Sp.new (Q := []) s2 nd fun Y F r => by
    cases r
    exact ⟨[dx], .rawO upd_same rfl trivial, .inr rfl⟩
  exact ⟨Sp.excF (ns := [f]) (vs := [v]) (ds := [fz d]) s3 na hC (by simp) rfl rfl (show (isFz (fz d) && true) = true by rw [isFz_fz]; rfl), s1.dom⟩
theorem x_excF (c : CalE X.prog X.w X.K X.mg X.base k x f g) (hr : Room (k + 1) X.A) (he : IG X e m) (hg : Gl X x := by rfl) (hs : starEach [e] X.env = (false, eval e X.env) :: starEach [] X.env := by rfl) (hdb : (x == ("__debug__" : Str)) = false := by decide) : IG X (.Call (.Name x p) [e] [] pos) (mExcF x f m) := by
  intro Z Hb H σ δ L d δ' s e' Q q
  unfold mExcF at e'
  split at e'
  · rename_i d0 δ1 e1
    cases e'
    obtain ⟨C, fI, fd, self, hC, O, F1, hb, _⟩ := c.ex
    refine wE_of (pe_kept (pmk_oex (dvs := []) (ds := []) O.ox O.init O.fn F1 hr hb .nil pass0 hg hC (pa_cons pe_w pa_nil hs) hdb hs rfl)) ?_
    refine he s e1 _ fun v H1 s1 => ⟨show 1 ≤ 1000 by decide, fun a na => ⟨a, v, rfl, upd_same, fun dx hn ne => ?_⟩⟩
    have nd : H1 dx = none := by rwa [upd_ne ne] at hn
    refine ⟨rfl, dx, [(f, v)], upd_same, by rw [upd_ne ne, upd_same], nd, ?_⟩
    rw [heap_mk na ne]
    exact fun a2 na2 => q _ _ (s1.kept nd na2 hC)
  · exact nomatch e'
theorem x_excK {nm : Option Str} {kp : Pos} (c : CalE X.prog X.w X.K X.mg X.base k x f g) (hr : Room (k + 1) X.A) (he : IG X e m) (hg : Gl X x := by rfl) (hdb : (x == ("__debug__" : Str)) = false := by decide)
    (hall : (backToKw pos (keywordEach [⟨nm, e, kp⟩] X.env)).all (·.1.isSome) = true := by rfl) (hks : (backToKw pos (keywordEach [⟨nm, e, kp⟩] X.env)).filterMap (·.1) = [g] := by rfl)
    (hpl : ((backTo pos (starEach [] X.env)).any (·.1) || (backToKw pos (keywordEach [⟨nm, e, kp⟩] X.env)).any (·.1.isNone)) = false := by rfl) : IG X (.Call (.Name x p) [] [⟨nm, e, kp⟩] pos) (mExcF x f m) := by
  intro Z Hb H σ δ L d δ' s e' Q q
  unfold mExcF at e'
  split at e'
  · rename_i d0 δ1 e1
    cases e'
    obtain ⟨C, fI, fd, self, hC, O, F1, _, hb⟩ := c.ex
    refine wE_of (pe_kept (pmk_oexK O.ox O.init O.fn F1 hr hb hg hC (pk_cons pe_w pk_nil) hdb hall hks hpl)) ?_
    exact he s e1 _ fun v H1 s1 => ⟨v, rfl, fun dx nd a na => q _ _ (s1.kept nd na hC)⟩
  · exact nomatch e'
end
/-- what a head tells of such a class -/
theorem calE_of {P : Program} {w : World} {K : PySem.W.Frag} {mg : Str → Option Value} {base : Heap} {c f g x z self : Str} {qual : Str} {params : Arguments} {scope : Scope} {fd : FuncData} {j : Nat} {p1 p2 p3 p4 p5 p6 p7 p8 p9 p10 : Pos} {B : Addr}
    (F : FunD K "__init__" qual params [.Expr (.Call (.Attribute (.Name x p1) "__init__" p2) [.Name self p3, .Constant (.str z) j p4] [] p5) p6, .Assign [.Attribute (.Name self p7) f p8] (.Name g p9) p10] scope [] [] (He.ma K (He.ga K c) "__init__") fd) (S : FnScope [self, g] [self, g] scope)
    (Bc : BasC K mg x B) (O : oneFB K c f = true) (gm : mg c = some (.ref (He.ga K c))) (hg : scope.names.lookup x = some .globalImplicit) (h1 : scope.names.lookup self = some .local) (h2 : scope.names.lookup g = some .local)
    (hd : (x == ("__debug__" : Str)) = false) (d1 : (self == ("__debug__" : Str)) = false) (d2 : (self == ("__classdict__" : Str)) = false) (d3 : (g == ("__debug__" : Str)) = false) (d4 : (g == ("__classdict__" : Str)) = false)
    (hc : ∀ env : PySem.Env, ∃ pl : Sem Bool, eval (.Call (.Attribute (.Name x p1) "__init__" p2) [.Name self p3, .Constant (.str z) j p4] [] p5) env = (do
      let ov ← eval (.Name x p1) env
      standAt p2.atName
      let (m, first) ← holding [ov] (getMethod ov "__init__" pl)
      callWith p5 m first (backTo p5 (starEach [.Name self p3, .Constant (.str z) j p4] env)) (backToKw p5 (keywordEach [] env))))
    (hs : ∀ env : PySem.Env, swapsWith (.Name g p9) (some (.Attribute (.Name self p7) f p8)) p10.line env = pure false) (hs2 : ∀ env : PySem.Env, swapsWith (.Call (.Attribute (.Name x p1) "__init__" p2) [.Name self p3, .Constant (.str z) j p4] [] p5) none p6.line env = pure false)
    (b1 : ∀ (kV doc pm : Value) (an : Option Addr) (cdv ct : Value) (us : List Value), us.length = 2 → bindArgs (PySem.W.fnOf "__init__" qual params [.Expr (.Call (.Attribute (.Name x p1) "__init__" p2) [.Name self p3, .Constant (.str z) j p4] [] p5) p6, .Assign [.Attribute (.Name self p7) f p8] (.Name g p9) p10] scope .none kV doc pm an cdv ct) ⟨us, []⟩ = pure ([self, g].zip us))
    (b2 : ∀ (kV doc pm : Value) (an : Option Addr) (cdv ct : Value) (o u : Value), bindArgs (PySem.W.fnOf "__init__" qual params [.Expr (.Call (.Attribute (.Name x p1) "__init__" p2) [.Name self p3, .Constant (.str z) j p4] [] p5) p6, .Assign [.Attribute (.Name self p7) f p8] (.Name g p9) p10] scope .none kV doc pm an cdv ct) ⟨[o], [(g, u)]⟩ = pure [(self, o), (g, u)]) :
    CalE P w K mg base 2 c f g := by
  have O1 := oneF_of O
  refine ⟨_, _, fd, self, gm, O1, init1_ok F S Bc O1.ox O1.no hg h1 h2 hd d1 d2 d3 d4 hc hs hs2, F.bindsN b1, ?_⟩
  obtain ⟨oc, od, dV, kV, doc, pm, an, cdv, ct, osl, rfl, lk, hcd, hD, _⟩ := F.ex
  rcases hD with ⟨_, rfl⟩ | ⟨e, _⟩
  · intro s o u _
    exact .of_eq (b2 kV doc pm an cdv ct o u)
  · exact absurd rfl e
def basB (K : PySem.W.Frag) (B : Addr) : Bool := decide (PySem.W.specialIn K (.ref B) "__getattribute__" = some (some (.builtin "type.__getattribute__"))) && ((match PySem.W.findCls K (.ref B) (.type "type") "__init__" with
  | some (.val (.builtin n)) => decide (n = "ValueError.__init__")
  | _ => false) && (decide (PySem.W.typeIn K (.ref B) = some (.type "type")) && PySem.W.readsIn K B (.type "type")))
theorem bas_of {K : PySem.W.Frag} {mg : Str → Option Value} {x : Str} {B : Addr} (h : basB K B = true) (gm : mg x = some (.ref B)) : BasC K mg x B := by
  simp only [basB, decide_eq_true_eq, Bool.and_eq_true] at h
  obtain ⟨a1, a2, a3, a4⟩ := h
  refine ⟨gm, a1, ?_, a3, a4⟩
  split at a2
  · rename_i n e
    rw [e, of_decide_eq_true a2]
  · exact nomatch a2
section
variable {K : PySem.W.Frag} {mg : Str → Option Value} {es : CT} {cs : List Str} {c f : Str} {C : Addr}
theorem ExA.oneC (T : ExA K mg es) (h : (es.lookup c).isSome = true) (gm : mg c = some (.ref C)) : ExcC K C := by
  obtain ⟨bs, hb⟩ := Option.isSome_iff_exists.mp h
  obtain ⟨C1, hC, O⟩ := T.one c bs hb
  cases hC.symm.trans gm
  exact O.ec
theorem atX_nil : AtX K mg [] f := fun _ m => nomatch m
theorem atX_cons (gm : mg c = some (.ref C)) (e : ExcC K C) (no : PySem.W.findIn K (.ref C) f = some none) (r : AtX K mg cs f) : AtX K mg (c :: cs) f := by
  intro x m D hD
  rcases List.mem_cons.mp m with rfl | m
  · cases gm.symm.trans hD
    exact ⟨e, no⟩
  · exact r x m D hD
end
end DL
set_option Elab.async false
set_option linter.all false
set_option maxRecDepth 100000
set_option maxHeartbeats 4000001
namespace DL
open PySem.Spec PySem L2 PyProof.Rows
def repS (x : Str) (k : Nat) : Str := ⟨(List.replicate k x.cps).foldl (· ++ ·) #[]⟩
theorem repS_size (x : Str) (k : Nat) : ∀ a : Array Nat, ((List.replicate k x.cps).foldl (· ++ ·) a).size = a.size + k * x.length := by
  induction k with
  | zero => intro a; simp
  | succ k ih =>
    intro a
    rw [List.replicate_succ, List.foldl_cons, ih, Array.size_append, Nat.succ_mul]
    show _ + x.length + _ = _
    omega
theorem repS_length (x : Str) (k : Nat) : (repS x k).length = k * x.length := by
  have := repS_size x k #[]
  simpa [repS, Str.length] using this
def dMulS : D → D → Option D
  | .str x, .int k => if 2 ≤ k ∧ k ≤ 1000 ∧ 0 < x.length ∧ x.length ≤ 1000 then some (.str (repS x k.toNat)) else none
  | x, y => dMul x y
theorem op_mul_text {X : Cx} : OpR X (binaryOp .Mult) (fun x y H Q => ∃ i k, x = .str i ∧ y = .int k ∧ 2 ≤ k ∧ k ≤ 1000 ∧ 0 < i.length ∧ i.length ≤ 1000 ∧ Q (.str (repS i k.toNat)) H) := by
  rintro pins s σ H x y v u Q I rx ry ⟨i, k, rfl, rfl, h1, h2, h3, h4, q⟩
  obtain ⟨t, rfl⟩ := rx
  obtain ⟨t', rfl⟩ := ry
  have small : i.length * k.toNat ≤ 1000000 := Nat.mul_le_mul h4 (by omega : k.toNat ≤ 1000)
  have line : (1000000 : Nat) ≤ sizeLine := by decide +kernel
  have n1 : ¬ k < 1 := by omega
  have n2 : ¬ (k == 1 || i.length == 0) = true := by
    simp only [Bool.or_eq_true, beq_iff_eq]
    omega
  apply PySem.P.mul_str
  · simp only [Bool.or_eq_false_iff, decide_eq_false_iff_not]
    omega
  · intro _ _
    have : (1000 : Int) ≤ (2 ^ 63 - 1) / k := by
      rw [Int.le_ediv_iff_mul_le (by omega)]
      omega
    omega
  · intro _ _
    show decide (_ > sizeLine) = false
    rw [decide_eq_false_iff_not]
    omega
  · rw [if_neg n1, if_neg n2]
    refine ⟨?_, ⟨.str (repS i k.toNat), H, I.tok _, ⟨s.toks, rfl⟩, q⟩⟩
    show (repS i k.toNat).length ≤ sizeLine
    rw [repS_length, Nat.mul_comm]
    omega
theorem br_mulS {X : Cx} : BR X (binaryOp .Mult) dMulS := by
  intro Z Hb H P x y dx dy d s e Q q
  unfold dMulS at e
  split at e
  · split at e
    · rename_i h
      cases e
      exact wR_of op_mul_text ⟨_, _, s.drop.str, s.int, h.1, h.2.1, h.2.2.1, h.2.2.2, q _ _ (s.two fun _ => .str)⟩
    · exact nomatch e
  · exact br_mul s e Q q
end DL
set_option Elab.async false
set_option linter.all false
set_option maxRecDepth 100000
set_option maxHeartbeats 0
namespace K01
open PySem PySem.Spec PyProof.Rows L2 DL
def ct : CT := []
def pl : List Str := ["BadScene", "BadPattern", "BadWrong", "BadName", "BadChecks", "BadBounds", "BadStand", "BadSlots", "BadFilling", "BadPrices", "NotSafe", "BadNumber", "BadFrame", "BadWays", "BadWord", "BadTimed", "BadTold", "BadWay", "BadDeed", "NothingDone"]
def es : CT := [(("BadHall" : Str), (["FarError"] : List Str)), (("BadRules" : Str), (["FarError"] : List Str)), (("BadScheme" : Str), (["FarError"] : List Str)), (("NoKeeper" : Str), (["FarError"] : List Str)), (("NoRule" : Str), (["FarError"] : List Str)), (("NoCell" : Str), (["FarError"] : List Str)), (("BadWeaving" : Str), (["FarError"] : List Str)), (("TooMany" : Str), (["FarError"] : List Str)), (("BadWrongs" : Str), (["FarError"] : List Str)), (("BadText" : Str), (["FarError"] : List Str)), (("BadCourse" : Str), (["FarError"] : List Str)), (("BadTiming" : Str), (["FarError"] : List Str)), (("BadJournal" : Str), (["FarError"] : List Str)), (("BadScene" : Str), (["FarError"] : List Str)), (("BadPattern" : Str), (["FarError"] : List Str)), (("BadWrong" : Str), (["FarError"] : List Str)), (("BadName" : Str), (["FarError"] : List Str)), (("BadChecks" : Str), (["FarError"] : List Str)), (("BadBounds" : Str), (["FarError"] : List Str)), (("BadStand" : Str), (["FarError"] : List Str)), (("BadSlots" : Str), (["FarError"] : List Str)), (("BadFilling" : Str), (["FarError"] : List Str)), (("BadPrices" : Str), (["FarError"] : List Str)), (("NotSafe" : Str), (["FarError"] : List Str)), (("BadNumber" : Str), (["FarError"] : List Str)), (("BadFrame" : Str), (["FarError"] : List Str)), (("BadWays" : Str), (["FarError"] : List Str)), (("BadWord" : Str), (["FarError"] : List Str)), (("BadTimed" : Str), (["FarError"] : List Str)), (("BadTold" : Str), (["FarError"] : List Str)), (("BadWay" : Str), (["FarError"] : List Str)), (("BadDeed" : Str), (["FarError"] : List Str)), (("NothingDone" : Str), (["FarError"] : List Str)), (("FarError" : Str), ([] : List Str))]
def ps__law_begun : List Str := ["_law_script"]
def N__law_begun : List Str := ["_law_script", "_law_large", "_law_cell"]
def P__law_begun (i : Nat) : Bool := ([true] : List Bool).getD i false
def b__law_begun : MS := (sCons (sSet 1 (mLc (iAlt (iAny (mVar 0)) (keysAt 0 pVar)) [2] (tName 2) (toT (mBin dGe (mCallB dAbs (mCons (mVar 2) mNil)) (mBin dPow (mC (.int 10)) (mC (.int 18))))) (mBin dSub (mCallB dAbs (mCons (mVar 2) mNil)) (mBin dPow (mC (.int 10)) (mC (.int 18))))))
  (sRet (mDisp [((mC (.str "large")), (mMv 1)), ((mC (.str "cells")), (mLc (iAlt (iAny (mVar 0)) (keysAt 0 pVar)) [2] (tName 2) tTrue (mCallB dAbs (mCons (mVar 2) mNil)))), ((mC (.str "rest")), (mC (.int 0))), ((mC (.str "turn")), (mC (.int 0)))])))
def m__law_begun : MF := mFun ps__law_begun.length N__law_begun.length P__law_begun b__law_begun
def ps__law_mixed : List Str := ["_law_state"]
def N__law_mixed : List Str := ["_law_state", "_law_found", "_law_prime", "_law_blend", "_law_cell"]
def P__law_mixed (i : Nat) : Bool := ([true] : List Bool).getD i false
def b__law_mixed : MS := (sCons (sPut 0 pVar (kC (.str "turn")) (mBin dAdd (mPath 0 (pSub pVar (kC (.str "turn")))) (mC (.int 1))))
  (sCons (sSet 1 (mC (.int 0)))
  (sCons (sFor (iAny (mLst (mCons (mC (.int 2147483629)) (mCons (mC (.int 2147483587)) (mCons (mC (.int 2147483579)) (mCons (mC (.int 2147483563)) mNil)))))) (tName 2)
  (sCons (sSet 3 (mBin dAdd (mBin dMul (mC (.int 104729)) (mPath 0 (pSub pVar (kC (.str "turn"))))) (mBin dFdiv (mVar 2) (mC (.int 7)))))
  (sCons (sFor (iAlt (iAny (mPath 0 (pSub pVar (kC (.str "cells"))))) (keysAt 0 (pSub pVar (kC (.str "cells"))))) (tName 4)
  (sSet 3 (mBin dMod (mCallB dInt2 (mCons (mBin dAdd (mBin dMul (mVar 3) (mC (.int 48271))) (mVar 4)) mNil)) (mVar 2))))
  (sSet 1 (mBin dAdd (mBin dMul (mVar 1) (mC (.int 2147483647))) (mBin dMod (mCallB dInt2 (mCons (mBin dPow (mVar 3) (mC (.int 5))) mNil)) (mVar 2)))))))
  (sRet (mMv 1)))))
def m__law_mixed : MF := mFun ps__law_mixed.length N__law_mixed.length P__law_mixed b__law_mixed
def ps__law_take : List Str := ["_law_state", "_law_size"]
def N__law_take : List Str := ["_law_state", "_law_size", "_law_found"]
def P__law_take (i : Nat) : Bool := ([true, true] : List Bool).getD i false
def b__law_take : MS := (sCons (sIf (toT (mBin dEq (mPath 0 (pSub pVar (kC (.str "rest")))) (mC (.int 0))))
  (sPut 0 pVar (kC (.str "rest")) (mIf (purT [true] (toT (mBin dNe (mPath 0 (pSub pVar (kC (.str "large")))) (mLst mNil)))) (mMethP "list" gPopAt 0 (pSub pVar (kC (.str "large"))) (ksCons (kC (.int 0)) ksNil)) (mCall m__law_mixed [.v 0] [])))
  sNil)
  (sCons (sSet 2 (mBin dMod (mCallB dInt2 (mCons (mPath 0 (pSub pVar (kC (.str "rest")))) mNil)) (mVar 1)))
  (sCons (sPut 0 pVar (kC (.str "rest")) (mBin dFdiv (mPath 0 (pSub pVar (kC (.str "rest")))) (mVar 1)))
  (sRet (mMv 2)))))
def m__law_take : MF := mFun ps__law_take.length N__law_take.length P__law_take b__law_take
def ps__law_pick : List Str := ["_law_state", "_law_some"]
def N__law_pick : List Str := ["_law_state", "_law_some"]
def P__law_pick (i : Nat) : Bool := ([true, true] : List Bool).getD i false
def b__law_pick : MS := (sRet (mBin dIx (mVar 1) (mCall m__law_take [.v 0, .e (mCallB dLen (mCons (mVar 1) mNil))] [])))
def m__law_pick : MF := mFun ps__law_pick.length N__law_pick.length P__law_pick b__law_pick
def ps__law_value : List Str := ["_law_state"]
def N__law_value : List Str := ["_law_state", "_law_some"]
def P__law_value (i : Nat) : Bool := ([true] : List Bool).getD i false
def b__law_value : MS := (sCons (sSet 1 (mLst (mCons (mC .non) (mCons (mC (.bl true)) (mCons (mC (.int 0)) (mCons (mNeg (mC (.int 3))) (mCons (mBin dPow (mC (.int 10)) (mC (.int 15))) (mCons (mC (.str "")) (mCons (mC (.str "at")) (mCons (mTup mNil) (mCons (mTup (mCons (mC (.int 1)) (mCons (mC (.str "a")) mNil))) (mCons (mLst (mCons (mC (.str "x")) mNil)) (mCons (mDisp [((mC (.str "k")), (mC .non))]) (mCons (mTup (mCons (mC (.str "tell")) (mCons (mC (.str "a")) (mCons (mC (.int 0)) mNil)))) mNil))))))))))))))
  (sRet (mCall m__law_pick [.v 0, .e (mVar 1)] [])))
def m__law_value : MF := mFun ps__law_value.length N__law_value.length P__law_value b__law_value
def ps__law_kept : List Str := ["_law_thing"]
def N__law_kept : List Str := ["_law_thing", "_law_found"]
def P__law_kept (i : Nat) : Bool := ([true] : List Bool).getD i false
def b__law_kept : MS := (sCons (sSet 1 (mLst mNil))
  (sCons (sSet 1 (mBin dAdd (mVar 1) (mLst (mCons (mExcF "BadHall" "part" (mVar 0)) (mCons (mExcF "BadHall" "part" (mVar 0)) (mCons (mExcF "BadRules" "at" (mVar 0)) (mCons (mExcF "BadRules" "at" (mVar 0)) mNil)))))))
  (sCons (sSet 1 (mBin dAdd (mVar 1) (mLst (mCons (mExcF "BadScheme" "part" (mVar 0)) (mCons (mExcF "BadScheme" "part" (mVar 0)) (mCons (mExcF "NoKeeper" "name" (mVar 0)) (mCons (mExcF "NoKeeper" "name" (mVar 0)) mNil)))))))
  (sCons (sSet 1 (mBin dAdd (mVar 1) (mLst (mCons (mExcF "NoRule" "index" (mVar 0)) (mCons (mExcF "NoRule" "index" (mVar 0)) (mCons (mExcF "NoCell" "cell" (mVar 0)) (mCons (mExcF "NoCell" "cell" (mVar 0)) mNil)))))))
  (sCons (sSet 1 (mBin dAdd (mVar 1) (mLst (mCons (mExcF "BadWeaving" "at" (mVar 0)) (mCons (mExcF "BadWeaving" "at" (mVar 0)) (mCons (mExcF "TooMany" "most" (mVar 0)) (mCons (mExcF "TooMany" "most" (mVar 0)) mNil)))))))
  (sCons (sSet 1 (mBin dAdd (mVar 1) (mLst (mCons (mExcF "BadWrongs" "at" (mVar 0)) (mCons (mExcF "BadWrongs" "at" (mVar 0)) (mCons (mExcF "BadText" "line" (mVar 0)) (mCons (mExcF "BadText" "line" (mVar 0)) mNil)))))))
  (sCons (sSet 1 (mBin dAdd (mVar 1) (mLst (mCons (mExcF "BadCourse" "at" (mVar 0)) (mCons (mExcF "BadCourse" "at" (mVar 0)) (mCons (mExcF "BadTiming" "part" (mVar 0)) (mCons (mExcF "BadTiming" "part" (mVar 0)) mNil)))))))
  (sCons (sSet 1 (mBin dAdd (mVar 1) (mLst (mCons (mExcF "BadJournal" "at" (mVar 0)) (mCons (mExcF "BadJournal" "at" (mVar 0)) mNil)))))
  (sRet (mMv 1))))))))))
def m__law_kept : MF := mFun ps__law_kept.length N__law_kept.length P__law_kept b__law_kept
def ps__law_said : List Str := ["_law_words"]
def N__law_said : List Str := ["_law_words", "_law_found"]
def P__law_said (i : Nat) : Bool := ([true] : List Bool).getD i false
def b__law_said : MS := (sCons (sSet 1 (mLst mNil))
  (sCons (sSet 1 (mBin dAdd (mVar 1) (mLst (mCons (mExc0 "BadScene" (mVar 0)) (mCons (mExc0 "BadPattern" (mVar 0)) (mCons (mExc0 "BadWrong" (mVar 0)) mNil))))))
  (sCons (sSet 1 (mBin dAdd (mVar 1) (mLst (mCons (mExc0 "BadName" (mVar 0)) (mCons (mExc0 "BadChecks" (mVar 0)) (mCons (mExc0 "BadBounds" (mVar 0)) mNil))))))
  (sCons (sSet 1 (mBin dAdd (mVar 1) (mLst (mCons (mExc0 "BadStand" (mVar 0)) (mCons (mExc0 "BadSlots" (mVar 0)) (mCons (mExc0 "BadFilling" (mVar 0)) mNil))))))
  (sCons (sSet 1 (mBin dAdd (mVar 1) (mLst (mCons (mExc0 "BadPrices" (mVar 0)) (mCons (mExc0 "NotSafe" (mVar 0)) (mCons (mExc0 "BadNumber" (mVar 0)) mNil))))))
  (sCons (sSet 1 (mBin dAdd (mVar 1) (mLst (mCons (mExc0 "BadFrame" (mVar 0)) (mCons (mExc0 "BadWays" (mVar 0)) (mCons (mExc0 "BadWord" (mVar 0)) mNil))))))
  (sCons (sSet 1 (mBin dAdd (mVar 1) (mLst (mCons (mExc0 "BadTimed" (mVar 0)) (mCons (mExc0 "BadTold" (mVar 0)) (mCons (mExc0 "BadWay" (mVar 0)) mNil))))))
  (sCons (sSet 1 (mBin dAdd (mVar 1) (mLst (mCons (mExc0 "BadDeed" (mVar 0)) (mCons (mExc0 "NothingDone" (mVar 0)) mNil)))))
  (sRet (mMv 1))))))))))
def m__law_said : MF := mFun ps__law_said.length N__law_said.length P__law_said b__law_said
def ps__law_fields : List Str := []
def N__law_fields : List Str := []
def P__law_fields (i : Nat) : Bool := ([] : List Bool).getD i false
def b__law_fields : MS := (sRet (mMethV "str" gSplit (mC (.str "part at part name index cell at most at line at part at")) (mCons (mC (.str " ")) mNil)))
def m__law_fields : MF := mFun ps__law_fields.length N__law_fields.length P__law_fields b__law_fields
def ps__law_field : List Str := ["_law_e", "_law_word"]
def N__law_field : List Str := ["_law_e", "_law_word"]
def P__law_field (i : Nat) : Bool := ([true, true] : List Bool).getD i false
def b__law_field : MS := (sCons (sIf (toT (mBin dEq (mVar 1) (mC (.str "part"))))
  (sRet (mXF ["BadHall", "BadScheme", "BadTiming"] "part" (mVar 0)))
  sNil)
  (sCons (sIf (toT (mBin dEq (mVar 1) (mC (.str "at"))))
  (sRet (mXF ["BadRules", "BadWeaving", "BadWrongs", "BadCourse", "BadJournal"] "at" (mVar 0)))
  sNil)
  (sCons (sIf (toT (mBin dEq (mVar 1) (mC (.str "name"))))
  (sRet (mXF ["NoKeeper"] "name" (mVar 0)))
  sNil)
  (sCons (sIf (toT (mBin dEq (mVar 1) (mC (.str "index"))))
  (sRet (mXF ["NoRule"] "index" (mVar 0)))
  sNil)
  (sCons (sIf (toT (mBin dEq (mVar 1) (mC (.str "cell"))))
  (sRet (mXF ["NoCell"] "cell" (mVar 0)))
  sNil)
  (sRet (mIf (toT (mBin dEq (mVar 1) (mC (.str "most")))) (mXF ["TooMany"] "most" (mVar 0)) (mXF ["BadText"] "line" (mVar 0)))))))))
def m__law_field : MF := mFun ps__law_field.length N__law_field.length P__law_field b__law_field
def ps__law_values : List Str := ["_law_some"]
def N__law_values : List Str := ["_law_some", "_law_found", "_law_at", "_law_word"]
def P__law_values (i : Nat) : Bool := ([true] : List Bool).getD i false
def b__law_values : MS := (sCons (sSet 1 (mLst mNil))
  (sCons (sFor (iEnum2 (mCons (mCall m__law_fields [] []) mNil)) (tTup (tsCons (tName 2) (tsCons (tName 3) tsNil)))
  (sSet 1 (mBin dAdd (mVar 1) (mLst (mCons (mCall m__law_field [.e (mAlt (mPath 0 (pSub pVar (kPur [false, false, true] (mBin dMul (mC (.int 2)) (mVar 2))))) (mBin dIx (mVar 0) (mBin dMul (mC (.int 2)) (mVar 2)))), .e (mVar 3)] []) (mCons (mCall m__law_field [.e (mAlt (mPath 0 (pSub pVar (kPur [false, false, true] (mBin dAdd (mBin dMul (mC (.int 2)) (mVar 2)) (mC (.int 1)))))) (mBin dIx (mVar 0) (mBin dAdd (mBin dMul (mC (.int 2)) (mVar 2)) (mC (.int 1))))), .e (mVar 3)] []) mNil))))))
  (sRet (mMv 1))))
def m__law_values : MF := mFun ps__law_values.length N__law_values.length P__law_values b__law_values
def ps__law_marks : List Str := ["_law_e"]
def N__law_marks : List Str := ["_law_e", "_law_some"]
def P__law_marks (i : Nat) : Bool := ([true] : List Bool).getD i false
def b__law_marks : MS := (sCons (sSet 1 (mLst mNil))
  (sCons (sSet 1 (mBin dAdd (mVar 1) (mLst (mCons (mCallB (dIsF es ct) (mCons (mVar 0) (mCons (mC (.glo "BadHall")) mNil))) (mCons (mCallB (dIsF es ct) (mCons (mVar 0) (mCons (mC (.glo "BadRules")) mNil))) (mCons (mCallB (dIsF es ct) (mCons (mVar 0) (mCons (mC (.glo "BadScheme")) mNil))) mNil))))))
  (sCons (sSet 1 (mBin dAdd (mVar 1) (mLst (mCons (mCallB (dIsF es ct) (mCons (mVar 0) (mCons (mC (.glo "NoKeeper")) mNil))) (mCons (mCallB (dIsF es ct) (mCons (mVar 0) (mCons (mC (.glo "NoRule")) mNil))) (mCons (mCallB (dIsF es ct) (mCons (mVar 0) (mCons (mC (.glo "NoCell")) mNil))) mNil))))))
  (sCons (sSet 1 (mBin dAdd (mVar 1) (mLst (mCons (mCallB (dIsF es ct) (mCons (mVar 0) (mCons (mC (.glo "BadWeaving")) mNil))) (mCons (mCallB (dIsF es ct) (mCons (mVar 0) (mCons (mC (.glo "TooMany")) mNil))) (mCons (mCallB (dIsF es ct) (mCons (mVar 0) (mCons (mC (.glo "BadWrongs")) mNil))) mNil))))))
  (sCons (sSet 1 (mBin dAdd (mVar 1) (mLst (mCons (mCallB (dIsF es ct) (mCons (mVar 0) (mCons (mC (.glo "BadText")) mNil))) (mCons (mCallB (dIsF es ct) (mCons (mVar 0) (mCons (mC (.glo "BadCourse")) mNil))) (mCons (mCallB (dIsF es ct) (mCons (mVar 0) (mCons (mC (.glo "BadTiming")) mNil))) mNil))))))
  (sCons (sSet 1 (mBin dAdd (mVar 1) (mLst (mCons (mCallB (dIsF es ct) (mCons (mVar 0) (mCons (mC (.glo "BadJournal")) mNil))) mNil))))
  (sCons (sSet 1 (mBin dAdd (mVar 1) (mLst (mCons (mCallB (dIsF es ct) (mCons (mVar 0) (mCons (mC (.glo "BadScene")) mNil))) (mCons (mCallB (dIsF es ct) (mCons (mVar 0) (mCons (mC (.glo "BadPattern")) mNil))) (mCons (mCallB (dIsF es ct) (mCons (mVar 0) (mCons (mC (.glo "BadWrong")) mNil))) mNil))))))
  (sCons (sSet 1 (mBin dAdd (mVar 1) (mLst (mCons (mCallB (dIsF es ct) (mCons (mVar 0) (mCons (mC (.glo "BadName")) mNil))) (mCons (mCallB (dIsF es ct) (mCons (mVar 0) (mCons (mC (.glo "BadChecks")) mNil))) (mCons (mCallB (dIsF es ct) (mCons (mVar 0) (mCons (mC (.glo "BadBounds")) mNil))) mNil))))))
  (sCons (sSet 1 (mBin dAdd (mVar 1) (mLst (mCons (mCallB (dIsF es ct) (mCons (mVar 0) (mCons (mC (.glo "BadStand")) mNil))) (mCons (mCallB (dIsF es ct) (mCons (mVar 0) (mCons (mC (.glo "BadSlots")) mNil))) (mCons (mCallB (dIsF es ct) (mCons (mVar 0) (mCons (mC (.glo "BadFilling")) mNil))) mNil))))))
  (sCons (sSet 1 (mBin dAdd (mVar 1) (mLst (mCons (mCallB (dIsF es ct) (mCons (mVar 0) (mCons (mC (.glo "BadPrices")) mNil))) (mCons (mCallB (dIsF es ct) (mCons (mVar 0) (mCons (mC (.glo "NotSafe")) mNil))) (mCons (mCallB (dIsF es ct) (mCons (mVar 0) (mCons (mC (.glo "BadNumber")) mNil))) mNil))))))
  (sCons (sSet 1 (mBin dAdd (mVar 1) (mLst (mCons (mCallB (dIsF es ct) (mCons (mVar 0) (mCons (mC (.glo "BadFrame")) mNil))) (mCons (mCallB (dIsF es ct) (mCons (mVar 0) (mCons (mC (.glo "BadWays")) mNil))) (mCons (mCallB (dIsF es ct) (mCons (mVar 0) (mCons (mC (.glo "BadWord")) mNil))) mNil))))))
  (sCons (sSet 1 (mBin dAdd (mVar 1) (mLst (mCons (mCallB (dIsF es ct) (mCons (mVar 0) (mCons (mC (.glo "BadTimed")) mNil))) (mCons (mCallB (dIsF es ct) (mCons (mVar 0) (mCons (mC (.glo "BadTold")) mNil))) (mCons (mCallB (dIsF es ct) (mCons (mVar 0) (mCons (mC (.glo "BadWay")) mNil))) mNil))))))
  (sCons (sSet 1 (mBin dAdd (mVar 1) (mLst (mCons (mCallB (dIsF es ct) (mCons (mVar 0) (mCons (mC (.glo "BadDeed")) mNil))) (mCons (mCallB (dIsF es ct) (mCons (mVar 0) (mCons (mC (.glo "NothingDone")) mNil))) mNil)))))
  (sRet (mMv 1)))))))))))))))
def m__law_marks : MF := mFun ps__law_marks.length N__law_marks.length P__law_marks b__law_marks
def ps_law : List Str := ["_law_script"]
def N_law : List Str := ["_law_script", "_law_state", "_law_turn", "_law_thing", "_law_words", "_law_kept_here", "_law_said_here", "_law_at", "_law_e", "_law_spot", "_law_k"]
def P_law (i : Nat) : Bool := ([true] : List Bool).getD i false
def b_law : MS := (sCons (sSet 1 (mCall m__law_begun [.e (mVar 0)] []))
  (sCons (sFor (mRng1 (mCons (mBin dAdd (mC (.int 1)) (mCallB dMin2 (mCons (mCallB dLen (mCons (mVar 0) mNil)) (mCons (mC (.int 8)) mNil)))) mNil)) (tName 2)
  (sCons (sPar [3, 4] (mCons (mCall m__law_value [.v 1] []) (mCons (mCall m__law_pick [.v 1, .e (mFz (mLst (mCons (mC (.str "")) (mCons (mC (.str "no scene")) (mCons (mBin dMulS (mC (.str "a")) (mC (.int 60))) mNil)))))] []) mNil)))
  (sCons (sPar [5, 6] (mCons (mCall m__law_kept [.e (mVar 3)] []) (mCons (mCall m__law_said [.e (mVar 4)] []) mNil)))
  (sCons (sIf (toT (mBin dNe (mCallB dRepr (mCons (mCall m__law_values [.e (mVar 5)] []) mNil)) (mCallB dRepr (mCons (mBin dMul (mLst (mCons (mVar 3) mNil)) (mCallB dLen (mCons (mVar 5) mNil))) mNil))))
  (sRet (mC (.bl false)))
  sNil)
  (sFor (iEnum2 (mCons (mBin dAdd (mVar 5) (mVar 6)) mNil)) (tTup (tsCons (tName 7) (tsCons (tName 8) tsNil)))
  (sCons (sSet 9 (mIf (toT (mBin dLt (mVar 7) (mC (.int 26)))) (mBin dFdiv (mVar 7) (mC (.int 2))) (mBin dSub (mVar 7) (mC (.int 13)))))
  (sCons (sIf (tOr2 (tNot1 (mTru (mCallB (dIsF es ct) (mCons (mVar 8) (mCons (mC (.glo "FarError")) mNil))))) (tNot1 (mTru (mIsVE es (mVar 8)))))
  (sRet (mC (.bl false)))
  sNil)
  (sIf (toT (mBin dNe (mCall m__law_marks [.e (mVar 8)] []) (mLc (mRng1 (mCons (mC (.int 33)) mNil)) [10] (tName 10) tTrue (mBin dEq (mVar 10) (mVar 9)))))
  (sRet (mC (.bl false)))
  sNil))))))))
  (sRet (mC (.bl true)))))
def m_law : MF := mFun ps_law.length N_law.length P_law b_law
end K01
set_option Elab.async false
set_option linter.all false
set_option maxRecDepth 100000
set_option maxHeartbeats 0
namespace K01
open PySem PySem.Spec PyProof.Rows L2 DL LamX
def top (i : Nat) : Stmt := PySem.Challenge.pw_farkeepers_k01_errors_by_hand.main.body.getD i (.Pass ⟨0, 0, 0, 0⟩)
def mst (i j : Nat) : Stmt := (bodyOf (top i)).getD j (.Pass ⟨0, 0, 0, 0⟩)
def dd (x : Str) (i : Nat) : He.DefD := ⟨(x, none), x, x, defArgs (top i), defBody (top i), defScope (top i), [], []⟩
def dm (c m q : Str) (i j : Nat) : He.DefD := ⟨(c, some m), m, q, defArgs (mst i j), defBody (mst i j), defScope (mst i j), [], []⟩
def fn : List He.DefD := [dd "_law_begun" 36, dd "_law_mixed" 37, dd "_law_take" 38, dd "_law_pick" 39, dd "_law_value" 40, dd "_law_kept" 41, dd "_law_said" 45, dd "_law_fields" 43, dd "_law_field" 44, dd "_law_values" 42, dd "_law_marks" 46, dd "law" 47, dm "BadHall" "__init__" "BadHall.__init__" 2 0, dm "BadRules" "__init__" "BadRules.__init__" 7 0, dm "BadScheme" "__init__" "BadScheme.__init__" 8 0, dm "NoKeeper" "__init__" "NoKeeper.__init__" 9 0, dm "NoRule" "__init__" "NoRule.__init__" 10 0, dm "NoCell" "__init__" "NoCell.__init__" 11 0, dm "BadWeaving" "__init__" "BadWeaving.__init__" 13 0, dm "TooMany" "__init__" "TooMany.__init__" 16 0, dm "BadWrongs" "__init__" "BadWrongs.__init__" 17 0, dm "BadText" "__init__" "BadText.__init__" 24 0, dm "BadCourse" "__init__" "BadCourse.__init__" 27 0, dm "BadTiming" "__init__" "BadTiming.__init__" 28 0, dm "BadJournal" "__init__" "BadJournal.__init__" 32 0]
def fa : List He.Fa := [.glo "_law_begun", .glo "_law_mixed", .glo "_law_take", .glo "_law_pick", .glo "_law_value", .glo "_law_kept", .glo "_law_said", .glo "_law_fields", .glo "_law_field", .glo "_law_values", .glo "_law_marks", .glo "law", .free "abs", .free "int", .free "len", .free "enumerate", .free "isinstance", .free "range", .free "min", .free "repr", .free "ValueError", .glo "FarError", .glo "BadHall", .glo "BadRules", .glo "BadScheme", .glo "NoKeeper", .glo "NoRule", .glo "NoCell", .glo "BadWeaving", .glo "TooMany", .glo "BadWrongs", .glo "BadText", .glo "BadCourse", .glo "BadTiming", .glo "BadJournal", .glo "BadScene", .glo "BadPattern", .glo "BadWrong", .glo "BadName", .glo "BadChecks", .glo "BadBounds", .glo "BadStand", .glo "BadSlots", .glo "BadFilling", .glo "BadPrices", .glo "NotSafe", .glo "BadNumber", .glo "BadFrame", .glo "BadWays", .glo "BadWord", .glo "BadTimed", .glo "BadTold", .glo "BadWay", .glo "BadDeed", .glo "NothingDone"]
def ex (K : PySem.W.Frag) : Bool := excAB K es && ((pl.all fun c => excOneB K (He.ga K c)) && ((basB K (He.ga K "FarError") && oneFB K "BadHall" "part" && oneFB K "BadRules" "at" && oneFB K "BadScheme" "part" && oneFB K "NoKeeper" "name" && oneFB K "NoRule" "index" && oneFB K "NoCell" "cell" && oneFB K "BadWeaving" "at" && oneFB K "TooMany" "most" && oneFB K "BadWrongs" "at" && oneFB K "BadText" "line" && oneFB K "BadCourse" "at" && oneFB K "BadTiming" "part" && oneFB K "BadJournal" "at") && (clsTB K ct && (true))))
abbrev R : PySem.W.OpenRow := PySem.W.OpenLaw.row PySem.Challenge.rw_farkeepers_k01_errors_by_hand
abbrev hk : PySem.W.Hook := hookS 4 fa fn ex
def ob (s : PySem.W.SharedT) : AlS := obsS 4 fa fn ex (HandSHeadRun.getT s)
theorem ob_eq (s : PySem.W.SharedT) : ob s = hk.obs s.abs := obsS_eq (HandSHeadRun.getT_eq s)
def names : List Str := (["FarError", "BadHall", "BadScene", "BadPattern", "BadWrong", "BadName", "BadRules", "BadScheme", "NoKeeper", "NoRule", "NoCell", "BadChecks", "BadWeaving", "BadBounds", "BadStand", "TooMany", "BadWrongs", "BadSlots", "BadFilling", "BadPrices", "NotSafe", "BadNumber", "BadFrame", "BadText", "BadWays"] : List Str) ++ (["BadWord", "BadCourse", "BadTiming", "BadTimed", "BadTold", "BadWay", "BadJournal", "BadDeed", "NothingDone", "_law_begun", "_law_mixed", "_law_take", "_law_pick", "_law_value", "_law_kept", "_law_values", "_law_fields", "_law_field", "_law_said", "_law_marks"] : List Str)
theorem run (w : World) : HandSHeadRun.RunEq R (PySem.W.view R.prog [47]) hk ob 12000 names w := by
  intro os
  kernel_rfl
end K01
set_option Elab.async false
set_option linter.all false
set_option maxRecDepth 100000
set_option maxHeartbeats 0
namespace K01
open PySem PySem.Spec PyProof.Rows L2 DL LamX
theorem bo_abs : bootBuiltins "abs" = some (.builtin "abs") := by kernel_rfl
theorem bo_int : bootBuiltins "int" = some (.type "int") := by kernel_rfl
theorem bo_len : bootBuiltins "len" = some (.builtin "len") := by kernel_rfl
theorem bo_isinstance : bootBuiltins "isinstance" = some (.builtin "isinstance") := by kernel_rfl
theorem bo_min : bootBuiltins "min" = some (.builtin "min") := by kernel_rfl
theorem bo_repr : bootBuiltins "repr" = some (.builtin "repr") := by kernel_rfl
section
variable {P : Program} {w : World} {K : PySem.W.Frag} {mg : Str → Option Value} {base : Heap} {f : Addr} {fd : FuncData}
theorem sc__law_begun : FnScope N__law_begun ps__law_begun (defScope (top 36)) := ⟨rfl, rfl, rfl, by decide +kernel, rfl, by decide +kernel, by decide +kernel⟩
theorem w__law_begun (F : FunD K "_law_begun" "_law_begun" (defArgs (top 36)) (defBody (top 36)) (defScope (top 36)) [] [] f fd) (b_abs : mg "abs" = none) :
    FnG P w K mg base 1 f fd ps__law_begun (spD K mg ps__law_begun.length m__law_begun) :=
  fnD_of (N := N__law_begun) (ps := ps__law_begun) (Pr := P__law_begun) (mb := b__law_begun) F sc__law_begun fun cdv A outer s H E hr hg =>
  (iss_cons (by exact (x_setLcA (own := [("_law_cell", 2)]) sc__law_begun.nd (ii_any (x_var 0)) (x_pv 0) (by show BlkOk N__law_begun (defScope (top 36)) _ _; exact ⟨rfl, by decide +kernel, by decide +kernel, by decide +kernel, by decide +kernel⟩) (fun _ _ _ _ _ => (x_tg 2 sc__law_begun.nd)) (fun _ _ _ _ _ => (its1 (x_tcmp br_ge (x_blt bc_abs b_abs bo_abs (by refine (x_lc (x_var 2) ?_); exact il_nil)) (ig_bin br_pow ig_int ig_int)))) (fun _ _ _ _ _ => (ig_bin br_sub (x_blt bc_abs b_abs bo_abs (by refine (x_lc (x_var 2) ?_); exact il_nil)) (ig_bin br_pow ig_int ig_int)))))
  (iss_one (by exact (is_ret (ig_disp (ips_cons ig_str (x_mv 1) (ips_cons ig_str (x_lcompA (own := [("_law_cell", 2)]) sc__law_begun.nd (ii_any (x_var 0)) (x_pv 0) (by show BlkOk N__law_begun (defScope (top 36)) _ _; exact ⟨rfl, by decide +kernel, by decide +kernel, by decide +kernel, by decide +kernel⟩) (fun _ _ _ _ _ => (x_tg 2 sc__law_begun.nd)) (fun _ _ _ _ _ => its0) (fun _ _ _ _ _ => (x_blt bc_abs b_abs bo_abs (by refine (x_lc (x_var 2) ?_); exact il_nil)))) (ips_cons ig_str ig_int (ips_cons ig_str ig_int ips_nil)))) rfl rfl nofun (by decide))))))
theorem sc__law_mixed : FnScope N__law_mixed ps__law_mixed (defScope (top 37)) := ⟨rfl, rfl, rfl, by decide +kernel, rfl, by decide +kernel, by decide +kernel⟩
theorem w__law_mixed (F : FunD K "_law_mixed" "_law_mixed" (defArgs (top 37)) (defBody (top 37)) (defScope (top 37)) [] [] f fd) (b_int : mg "int" = none) :
    FnG P w K mg base 1 f fd ps__law_mixed (spD K mg ps__law_mixed.length m__law_mixed) :=
  fnD_of (N := N__law_mixed) (ps := ps__law_mixed) (Pr := P__law_mixed) (mb := b__law_mixed) F sc__law_mixed fun cdv A outer s H E hr hg =>
  (iss_cons (by exact (x_put (Room.u65 hr) (ig_bin br_add (ig_path (x_psub (Room.u65 hr) (x_pv 0) ik_str)) ig_int) (x_pv 0) ik_str))
  (iss_cons (by exact (x_set 1 sc__law_mixed.nd ig_int))
  (iss_cons (by exact (x_for PassesOwn.never (ii_any (ig_lst (by refine (x_lc ig_int ?_); refine (x_lc ig_int ?_); refine (x_lc ig_int ?_); refine (x_lc ig_int ?_); exact il_nil))) (x_tg 2 sc__law_mixed.nd)
  (iss_cons (by exact (x_set 3 sc__law_mixed.nd (ig_bin br_add (ig_bin br_mul ig_int (ig_path (x_psub (Room.u65 hr) (x_pv 0) ik_str))) (ig_bin br_fdiv (x_var 2) ig_int))))
  (iss_cons (by exact (x_forA PassesOwn.never (ii_any (ig_path (x_psub (Room.u65 hr) (x_pv 0) ik_str))) (x_psub (Room.u65 hr) (x_pv 0) ik_str) (x_tg 4 sc__law_mixed.nd)
  (iss_one (by exact (x_set 3 sc__law_mixed.nd (ig_bin br_mod (x_bty bc_int2 b_int bo_int (by refine (x_lc (ig_bin br_add (ig_bin br_mul (x_var 3) ig_int) (x_var 4)) ?_); exact il_nil)) (x_var 2)))))))
  (iss_one (by exact (x_set 1 sc__law_mixed.nd (ig_bin br_add (ig_bin br_mul (x_var 1) ig_int) (ig_bin br_mod (x_bty bc_int2 b_int bo_int (by refine (x_lc (ig_bin br_pow (x_var 3) ig_int) ?_); exact il_nil)) (x_var 2))))))))))
  (iss_one (by exact (is_ret (x_mv 1)))))))
theorem sc__law_take : FnScope N__law_take ps__law_take (defScope (top 38)) := ⟨rfl, rfl, rfl, by decide +kernel, rfl, by decide +kernel, by decide +kernel⟩
theorem w__law_take (F : FunD K "_law_take" "_law_take" (defArgs (top 38)) (defBody (top 38)) (defScope (top 38)) [] [] f fd)
    (c__law_mixed : CalF P w K mg base 1 "_law_mixed" ps__law_mixed [] m__law_mixed) (b_int : mg "int" = none) :
    FnG P w K mg base 2 f fd ps__law_take (spD K mg ps__law_take.length m__law_take) :=
  fnD_of (N := N__law_take) (ps := ps__law_take) (Pr := P__law_take) (mb := b__law_take) F sc__law_take fun cdv A outer s H E hr hg =>
  (iss_cons (by exact (is_if (x_tcmp (br_eq (lt64 (Room.u65 hr))) (ig_path (x_psub (Room.u65 hr) (x_pv 0) ik_str)) ig_int)
  (iss_one (by exact (x_put (Room.u65 hr) (ig_if (it_pur [true] (x_tcmp (br_ne (lt64 (Room.u65 hr))) (ig_path (x_psub (Room.u65 hr) (x_pv 0) ik_str)) (ig_lst (by exact il_nil)))) (x_methP PySem.F.plainAttrs_list PySem.F.slot_list_pop PySem.F.type_list_pop mb_popAt (x_psub (Room.u65 hr) (x_pv 0) ik_str) (iks_cons ik_int iks_nil rfl)) (x_call c__law_mixed (hr.mono (by decide)) hg (x_av 0 x_a0))) (x_pv 0) ik_str)))
  iss_nil))
  (iss_cons (by exact (x_set 2 sc__law_take.nd (ig_bin br_mod (x_bty bc_int2 b_int bo_int (by refine (x_lc (ig_path (x_psub (Room.u65 hr) (x_pv 0) ik_str)) ?_); exact il_nil)) (x_var 1))))
  (iss_cons (by exact (x_put (Room.u65 hr) (ig_bin br_fdiv (ig_path (x_psub (Room.u65 hr) (x_pv 0) ik_str)) (x_var 1)) (x_pv 0) ik_str))
  (iss_one (by exact (is_ret (x_mv 2)))))))
theorem sc__law_pick : FnScope N__law_pick ps__law_pick (defScope (top 39)) := ⟨rfl, rfl, rfl, by decide +kernel, rfl, by decide +kernel, by decide +kernel⟩
theorem w__law_pick (F : FunD K "_law_pick" "_law_pick" (defArgs (top 39)) (defBody (top 39)) (defScope (top 39)) [] [] f fd)
    (c__law_take : CalF P w K mg base 2 "_law_take" ps__law_take [] m__law_take) (b_len : mg "len" = none) :
    FnG P w K mg base 3 f fd ps__law_pick (spD K mg ps__law_pick.length m__law_pick) :=
  fnD_of (N := N__law_pick) (ps := ps__law_pick) (Pr := P__law_pick) (mb := b__law_pick) F sc__law_pick fun cdv A outer s H E hr hg =>
  (iss_one (by exact (is_ret (x_ix (Room.u65 hr) (x_var 1) (x_call c__law_take (hr.mono (by decide)) hg (x_av 0 (x_ae (x_blt bc_len b_len bo_len (by refine (x_lc (x_var 1) ?_); exact il_nil)) x_a0)))))))
theorem sc__law_value : FnScope N__law_value ps__law_value (defScope (top 40)) := ⟨rfl, rfl, rfl, by decide +kernel, rfl, by decide +kernel, by decide +kernel⟩
theorem w__law_value (F : FunD K "_law_value" "_law_value" (defArgs (top 40)) (defBody (top 40)) (defScope (top 40)) [] [] f fd)
    (c__law_pick : CalF P w K mg base 3 "_law_pick" ps__law_pick [] m__law_pick) :
    FnG P w K mg base 4 f fd ps__law_value (spD K mg ps__law_value.length m__law_value) :=
  fnD_of (N := N__law_value) (ps := ps__law_value) (Pr := P__law_value) (mb := b__law_value) F sc__law_value fun cdv A outer s H E hr hg =>
  (iss_cons (by exact (x_set 1 sc__law_value.nd (ig_lst (by refine (x_lc ig_non ?_); refine (x_lc ig_bl ?_); refine (x_lc ig_int ?_); refine (x_lc (ig_neg ig_int) ?_); refine (x_lc (ig_bin br_pow ig_int ig_int) ?_); refine (x_lc ig_str ?_); refine (x_lc ig_str ?_); refine (x_lc (ig_tup (by exact il_nil)) ?_); refine (x_lc (ig_tup (by refine (x_lc ig_int ?_); refine (x_lc ig_str ?_); exact il_nil)) ?_); refine (x_lc (ig_lst (by refine (x_lc ig_str ?_); exact il_nil)) ?_); refine (x_lc (ig_disp (ips_cons ig_str ig_non ips_nil) rfl rfl nofun (by decide)) ?_); refine (x_lc (ig_tup (by refine (x_lc ig_str ?_); refine (x_lc ig_str ?_); refine (x_lc ig_int ?_); exact il_nil)) ?_); exact il_nil))))
  (iss_one (by exact (is_ret (x_call c__law_pick (hr.mono (by decide)) hg (x_av 0 (x_ae (x_var 1) x_a0)))))))
theorem sc__law_kept : FnScope N__law_kept ps__law_kept (defScope (top 41)) := ⟨rfl, rfl, rfl, by decide +kernel, rfl, by decide +kernel, by decide +kernel⟩
theorem w__law_kept (F : FunD K "_law_kept" "_law_kept" (defArgs (top 41)) (defBody (top 41)) (defScope (top 41)) [] [] f fd)
    (e_BadHall : CalE P w K mg base 2 "BadHall" "part" "part")
    (e_BadRules : CalE P w K mg base 2 "BadRules" "at" "at")
    (e_BadScheme : CalE P w K mg base 2 "BadScheme" "part" "part")
    (e_NoKeeper : CalE P w K mg base 2 "NoKeeper" "name" "name")
    (e_NoRule : CalE P w K mg base 2 "NoRule" "index" "index")
    (e_NoCell : CalE P w K mg base 2 "NoCell" "cell" "cell")
    (e_BadWeaving : CalE P w K mg base 2 "BadWeaving" "at" "at")
    (e_TooMany : CalE P w K mg base 2 "TooMany" "most" "most")
    (e_BadWrongs : CalE P w K mg base 2 "BadWrongs" "at" "at")
    (e_BadText : CalE P w K mg base 2 "BadText" "line" "line")
    (e_BadCourse : CalE P w K mg base 2 "BadCourse" "at" "at")
    (e_BadTiming : CalE P w K mg base 2 "BadTiming" "part" "part")
    (e_BadJournal : CalE P w K mg base 2 "BadJournal" "at" "at") :
    FnG P w K mg base 4 f fd ps__law_kept (spD K mg ps__law_kept.length m__law_kept) :=
  fnD_of (N := N__law_kept) (ps := ps__law_kept) (Pr := P__law_kept) (mb := b__law_kept) F sc__law_kept fun cdv A outer s H E hr hg =>
  (iss_cons (by exact (x_set 1 sc__law_kept.nd (ig_lst (by exact il_nil))))
  (iss_cons (by exact (x_set 1 sc__law_kept.nd (ig_bin br_add (x_var 1) (ig_lst (by refine (x_lc (x_excF e_BadHall (hr.mono (by decide)) (x_var 0)) ?_); refine (x_lc (x_excK e_BadHall (hr.mono (by decide)) (x_var 0)) ?_); refine (x_lc (x_excF e_BadRules (hr.mono (by decide)) (x_var 0)) ?_); refine (x_lc (x_excK e_BadRules (hr.mono (by decide)) (x_var 0)) ?_); exact il_nil)))))
  (iss_cons (by exact (x_set 1 sc__law_kept.nd (ig_bin br_add (x_var 1) (ig_lst (by refine (x_lc (x_excF e_BadScheme (hr.mono (by decide)) (x_var 0)) ?_); refine (x_lc (x_excK e_BadScheme (hr.mono (by decide)) (x_var 0)) ?_); refine (x_lc (x_excF e_NoKeeper (hr.mono (by decide)) (x_var 0)) ?_); refine (x_lc (x_excK e_NoKeeper (hr.mono (by decide)) (x_var 0)) ?_); exact il_nil)))))
  (iss_cons (by exact (x_set 1 sc__law_kept.nd (ig_bin br_add (x_var 1) (ig_lst (by refine (x_lc (x_excF e_NoRule (hr.mono (by decide)) (x_var 0)) ?_); refine (x_lc (x_excK e_NoRule (hr.mono (by decide)) (x_var 0)) ?_); refine (x_lc (x_excF e_NoCell (hr.mono (by decide)) (x_var 0)) ?_); refine (x_lc (x_excK e_NoCell (hr.mono (by decide)) (x_var 0)) ?_); exact il_nil)))))
  (iss_cons (by exact (x_set 1 sc__law_kept.nd (ig_bin br_add (x_var 1) (ig_lst (by refine (x_lc (x_excF e_BadWeaving (hr.mono (by decide)) (x_var 0)) ?_); refine (x_lc (x_excK e_BadWeaving (hr.mono (by decide)) (x_var 0)) ?_); refine (x_lc (x_excF e_TooMany (hr.mono (by decide)) (x_var 0)) ?_); refine (x_lc (x_excK e_TooMany (hr.mono (by decide)) (x_var 0)) ?_); exact il_nil)))))
  (iss_cons (by exact (x_set 1 sc__law_kept.nd (ig_bin br_add (x_var 1) (ig_lst (by refine (x_lc (x_excF e_BadWrongs (hr.mono (by decide)) (x_var 0)) ?_); refine (x_lc (x_excK e_BadWrongs (hr.mono (by decide)) (x_var 0)) ?_); refine (x_lc (x_excF e_BadText (hr.mono (by decide)) (x_var 0)) ?_); refine (x_lc (x_excK e_BadText (hr.mono (by decide)) (x_var 0)) ?_); exact il_nil)))))
  (iss_cons (by exact (x_set 1 sc__law_kept.nd (ig_bin br_add (x_var 1) (ig_lst (by refine (x_lc (x_excF e_BadCourse (hr.mono (by decide)) (x_var 0)) ?_); refine (x_lc (x_excK e_BadCourse (hr.mono (by decide)) (x_var 0)) ?_); refine (x_lc (x_excF e_BadTiming (hr.mono (by decide)) (x_var 0)) ?_); refine (x_lc (x_excK e_BadTiming (hr.mono (by decide)) (x_var 0)) ?_); exact il_nil)))))
  (iss_cons (by exact (x_set 1 sc__law_kept.nd (ig_bin br_add (x_var 1) (ig_lst (by refine (x_lc (x_excF e_BadJournal (hr.mono (by decide)) (x_var 0)) ?_); refine (x_lc (x_excK e_BadJournal (hr.mono (by decide)) (x_var 0)) ?_); exact il_nil)))))
  (iss_one (by exact (is_ret (x_mv 1))))))))))))
theorem sc__law_said : FnScope N__law_said ps__law_said (defScope (top 45)) := ⟨rfl, rfl, rfl, by decide +kernel, rfl, by decide +kernel, by decide +kernel⟩
theorem w__law_said (F : FunD K "_law_said" "_law_said" (defArgs (top 45)) (defBody (top 45)) (defScope (top 45)) [] [] f fd) (hEP : ExP K mg pl) :
    FnG P w K mg base 1 f fd ps__law_said (spD K mg ps__law_said.length m__law_said) :=
  fnD_of (N := N__law_said) (ps := ps__law_said) (Pr := P__law_said) (mb := b__law_said) F sc__law_said fun cdv A outer s H E hr hg =>
  (iss_cons (by exact (x_set 1 sc__law_said.nd (ig_lst (by exact il_nil))))
  (iss_cons (by exact (x_set 1 sc__law_said.nd (ig_bin br_add (x_var 1) (ig_lst (by refine (x_lc (x_exc0 pl hEP (x_var 0)) ?_); refine (x_lc (x_exc0 pl hEP (x_var 0)) ?_); refine (x_lc (x_exc0 pl hEP (x_var 0)) ?_); exact il_nil)))))
  (iss_cons (by exact (x_set 1 sc__law_said.nd (ig_bin br_add (x_var 1) (ig_lst (by refine (x_lc (x_exc0 pl hEP (x_var 0)) ?_); refine (x_lc (x_exc0 pl hEP (x_var 0)) ?_); refine (x_lc (x_exc0 pl hEP (x_var 0)) ?_); exact il_nil)))))
  (iss_cons (by exact (x_set 1 sc__law_said.nd (ig_bin br_add (x_var 1) (ig_lst (by refine (x_lc (x_exc0 pl hEP (x_var 0)) ?_); refine (x_lc (x_exc0 pl hEP (x_var 0)) ?_); refine (x_lc (x_exc0 pl hEP (x_var 0)) ?_); exact il_nil)))))
  (iss_cons (by exact (x_set 1 sc__law_said.nd (ig_bin br_add (x_var 1) (ig_lst (by refine (x_lc (x_exc0 pl hEP (x_var 0)) ?_); refine (x_lc (x_exc0 pl hEP (x_var 0)) ?_); refine (x_lc (x_exc0 pl hEP (x_var 0)) ?_); exact il_nil)))))
  (iss_cons (by exact (x_set 1 sc__law_said.nd (ig_bin br_add (x_var 1) (ig_lst (by refine (x_lc (x_exc0 pl hEP (x_var 0)) ?_); refine (x_lc (x_exc0 pl hEP (x_var 0)) ?_); refine (x_lc (x_exc0 pl hEP (x_var 0)) ?_); exact il_nil)))))
  (iss_cons (by exact (x_set 1 sc__law_said.nd (ig_bin br_add (x_var 1) (ig_lst (by refine (x_lc (x_exc0 pl hEP (x_var 0)) ?_); refine (x_lc (x_exc0 pl hEP (x_var 0)) ?_); refine (x_lc (x_exc0 pl hEP (x_var 0)) ?_); exact il_nil)))))
  (iss_cons (by exact (x_set 1 sc__law_said.nd (ig_bin br_add (x_var 1) (ig_lst (by refine (x_lc (x_exc0 pl hEP (x_var 0)) ?_); refine (x_lc (x_exc0 pl hEP (x_var 0)) ?_); exact il_nil)))))
  (iss_one (by exact (is_ret (x_mv 1))))))))))))
theorem sc__law_fields : FnScope N__law_fields ps__law_fields (defScope (top 43)) := ⟨rfl, rfl, rfl, by decide +kernel, rfl, by decide +kernel, by decide +kernel⟩
theorem w__law_fields (F : FunD K "_law_fields" "_law_fields" (defArgs (top 43)) (defBody (top 43)) (defScope (top 43)) [] [] f fd) :
    FnG P w K mg base 1 f fd ps__law_fields (spD K mg ps__law_fields.length m__law_fields) :=
  fnD_of (N := N__law_fields) (ps := ps__law_fields) (Pr := P__law_fields) (mb := b__law_fields) F sc__law_fields fun cdv A outer s H E hr hg =>
  (iss_one (by exact (is_ret (x_methV PySem.F.plainAttrs_str PySem.F.slot_str_split PySem.F.type_str_split bm_split ig_str (by refine (x_lc ig_str ?_); exact il_nil)))))
theorem sc__law_field : FnScope N__law_field ps__law_field (defScope (top 44)) := ⟨rfl, rfl, rfl, by decide +kernel, rfl, by decide +kernel, by decide +kernel⟩
theorem w__law_field (F : FunD K "_law_field" "_law_field" (defArgs (top 44)) (defBody (top 44)) (defScope (top 44)) [] [] f fd) (xf_part : AtX K mg ["BadHall", "BadScheme", "BadTiming"] "part") (xf_at : AtX K mg ["BadRules", "BadWeaving", "BadWrongs", "BadCourse", "BadJournal"] "at") (xf_name : AtX K mg ["NoKeeper"] "name") (xf_index : AtX K mg ["NoRule"] "index") (xf_cell : AtX K mg ["NoCell"] "cell") (xf_most : AtX K mg ["TooMany"] "most") (xf_line : AtX K mg ["BadText"] "line") :
    FnG P w K mg base 1 f fd ps__law_field (spD K mg ps__law_field.length m__law_field) :=
  fnD_of (N := N__law_field) (ps := ps__law_field) (Pr := P__law_field) (mb := b__law_field) F sc__law_field fun cdv A outer s H E hr hg =>
  (iss_cons (by exact (is_if (x_tcmp (br_eq (lt64 (Room.u65 hr))) (x_var 1) ig_str)
  (iss_one (by exact (is_ret (x_xf ["BadHall", "BadScheme", "BadTiming"] (x_var 0) xf_part))))
  iss_nil))
  (iss_cons (by exact (is_if (x_tcmp (br_eq (lt64 (Room.u65 hr))) (x_var 1) ig_str)
  (iss_one (by exact (is_ret (x_xf ["BadRules", "BadWeaving", "BadWrongs", "BadCourse", "BadJournal"] (x_var 0) xf_at))))
  iss_nil))
  (iss_cons (by exact (is_if (x_tcmp (br_eq (lt64 (Room.u65 hr))) (x_var 1) ig_str)
  (iss_one (by exact (is_ret (x_xf ["NoKeeper"] (x_var 0) xf_name))))
  iss_nil))
  (iss_cons (by exact (is_if (x_tcmp (br_eq (lt64 (Room.u65 hr))) (x_var 1) ig_str)
  (iss_one (by exact (is_ret (x_xf ["NoRule"] (x_var 0) xf_index))))
  iss_nil))
  (iss_cons (by exact (is_if (x_tcmp (br_eq (lt64 (Room.u65 hr))) (x_var 1) ig_str)
  (iss_one (by exact (is_ret (x_xf ["NoCell"] (x_var 0) xf_cell))))
  iss_nil))
  (iss_one (by exact (is_ret (ig_if (x_tcmp (br_eq (lt64 (Room.u65 hr))) (x_var 1) ig_str) (x_xf ["TooMany"] (x_var 0) xf_most) (x_xf ["BadText"] (x_var 0) xf_line))))))))))
theorem sc__law_values : FnScope N__law_values ps__law_values (defScope (top 42)) := ⟨rfl, rfl, rfl, by decide +kernel, rfl, by decide +kernel, by decide +kernel⟩
theorem w__law_values (F : FunD K "_law_values" "_law_values" (defArgs (top 42)) (defBody (top 42)) (defScope (top 42)) [] [] f fd)
    (c__law_fields : CalF P w K mg base 1 "_law_fields" ps__law_fields [] m__law_fields)
    (c__law_field : CalF P w K mg base 1 "_law_field" ps__law_field [] m__law_field) (b_enumerate : mg "enumerate" = none) :
    FnG P w K mg base 2 f fd ps__law_values (spD K mg ps__law_values.length m__law_values) :=
  fnD_of (N := N__law_values) (ps := ps__law_values) (Pr := P__law_values) (mb := b__law_values) F sc__law_values fun cdv A outer s H E hr hg =>
  (iss_cons (by exact (x_set 1 sc__law_values.nd (ig_lst (by exact il_nil))))
  (iss_cons (by exact (x_for PassesOwn.never (x_enum2 b_enumerate (by refine (x_lc (x_call0 c__law_fields (hr.mono (by decide)) hg) ?_); exact il_nil)) (it_tup rfl (its_cons (x_tg 2 sc__law_values.nd) (its_cons (x_tg 3 sc__law_values.nd) its_nil rfl) rfl) rfl rfl (tsCons_len (tsCons_len tsNil_len)))
  (iss_one (by exact (x_set 1 sc__law_values.nd (ig_bin br_add (x_var 1) (ig_lst (by refine (x_lc (x_call c__law_field (hr.mono (by decide)) hg (x_ae (ig_alt (ig_path (x_psub (Room.u65 hr) (x_pv 0) (ik_pur [false, false, true] (ig_bin br_mul ig_int (x_var 2))))) (x_ix (Room.u65 hr) (x_var 0) (ig_bin br_mul ig_int (x_var 2)))) (x_ae (x_var 3) x_a0))) ?_); refine (x_lc (x_call c__law_field (hr.mono (by decide)) hg (x_ae (ig_alt (ig_path (x_psub (Room.u65 hr) (x_pv 0) (ik_pur [false, false, true] (ig_bin br_add (ig_bin br_mul ig_int (x_var 2)) ig_int)))) (x_ix (Room.u65 hr) (x_var 0) (ig_bin br_add (ig_bin br_mul ig_int (x_var 2)) ig_int))) (x_ae (x_var 3) x_a0))) ?_); exact il_nil))))))))
  (iss_one (by exact (is_ret (x_mv 1))))))
theorem sc__law_marks : FnScope N__law_marks ps__law_marks (defScope (top 46)) := ⟨rfl, rfl, rfl, by decide +kernel, rfl, by decide +kernel, by decide +kernel⟩
theorem w__law_marks (F : FunD K "_law_marks" "_law_marks" (defArgs (top 46)) (defBody (top 46)) (defScope (top 46)) [] [] f fd) (b_isinstance : mg "isinstance" = none) (g_BadHall : GlD K mg "BadHall" (.glo "BadHall")) (g_BadRules : GlD K mg "BadRules" (.glo "BadRules")) (g_BadScheme : GlD K mg "BadScheme" (.glo "BadScheme")) (g_NoKeeper : GlD K mg "NoKeeper" (.glo "NoKeeper")) (g_NoRule : GlD K mg "NoRule" (.glo "NoRule")) (g_NoCell : GlD K mg "NoCell" (.glo "NoCell")) (g_BadWeaving : GlD K mg "BadWeaving" (.glo "BadWeaving")) (g_TooMany : GlD K mg "TooMany" (.glo "TooMany")) (g_BadWrongs : GlD K mg "BadWrongs" (.glo "BadWrongs")) (g_BadText : GlD K mg "BadText" (.glo "BadText")) (g_BadCourse : GlD K mg "BadCourse" (.glo "BadCourse")) (g_BadTiming : GlD K mg "BadTiming" (.glo "BadTiming")) (g_BadJournal : GlD K mg "BadJournal" (.glo "BadJournal")) (g_BadScene : GlD K mg "BadScene" (.glo "BadScene")) (g_BadPattern : GlD K mg "BadPattern" (.glo "BadPattern")) (g_BadWrong : GlD K mg "BadWrong" (.glo "BadWrong")) (g_BadName : GlD K mg "BadName" (.glo "BadName")) (g_BadChecks : GlD K mg "BadChecks" (.glo "BadChecks")) (g_BadBounds : GlD K mg "BadBounds" (.glo "BadBounds")) (g_BadStand : GlD K mg "BadStand" (.glo "BadStand")) (g_BadSlots : GlD K mg "BadSlots" (.glo "BadSlots")) (g_BadFilling : GlD K mg "BadFilling" (.glo "BadFilling")) (g_BadPrices : GlD K mg "BadPrices" (.glo "BadPrices")) (g_NotSafe : GlD K mg "NotSafe" (.glo "NotSafe")) (g_BadNumber : GlD K mg "BadNumber" (.glo "BadNumber")) (g_BadFrame : GlD K mg "BadFrame" (.glo "BadFrame")) (g_BadWays : GlD K mg "BadWays" (.glo "BadWays")) (g_BadWord : GlD K mg "BadWord" (.glo "BadWord")) (g_BadTimed : GlD K mg "BadTimed" (.glo "BadTimed")) (g_BadTold : GlD K mg "BadTold" (.glo "BadTold")) (g_BadWay : GlD K mg "BadWay" (.glo "BadWay")) (g_BadDeed : GlD K mg "BadDeed" (.glo "BadDeed")) (g_NothingDone : GlD K mg "NothingDone" (.glo "NothingDone")) (hEA : ExA K mg es) (hCT : ClsT K mg ct) :
    FnG P w K mg base 1 f fd ps__law_marks (spD K mg ps__law_marks.length m__law_marks) :=
  fnD_of (N := N__law_marks) (ps := ps__law_marks) (Pr := P__law_marks) (mb := b__law_marks) F sc__law_marks fun cdv A outer s H E hr hg =>
  (iss_cons (by exact (x_set 1 sc__law_marks.nd (ig_lst (by exact il_nil))))
  (iss_cons (by exact (x_set 1 sc__law_marks.nd (ig_bin br_add (x_var 1) (ig_lst (by refine (x_lc (x_blt (bc_isF hEA hCT) b_isinstance bo_isinstance (by refine (x_lc (x_var 0) ?_); refine (x_lc (x_gl g_BadHall) ?_); exact il_nil)) ?_); refine (x_lc (x_blt (bc_isF hEA hCT) b_isinstance bo_isinstance (by refine (x_lc (x_var 0) ?_); refine (x_lc (x_gl g_BadRules) ?_); exact il_nil)) ?_); refine (x_lc (x_blt (bc_isF hEA hCT) b_isinstance bo_isinstance (by refine (x_lc (x_var 0) ?_); refine (x_lc (x_gl g_BadScheme) ?_); exact il_nil)) ?_); exact il_nil)))))
  (iss_cons (by exact (x_set 1 sc__law_marks.nd (ig_bin br_add (x_var 1) (ig_lst (by refine (x_lc (x_blt (bc_isF hEA hCT) b_isinstance bo_isinstance (by refine (x_lc (x_var 0) ?_); refine (x_lc (x_gl g_NoKeeper) ?_); exact il_nil)) ?_); refine (x_lc (x_blt (bc_isF hEA hCT) b_isinstance bo_isinstance (by refine (x_lc (x_var 0) ?_); refine (x_lc (x_gl g_NoRule) ?_); exact il_nil)) ?_); refine (x_lc (x_blt (bc_isF hEA hCT) b_isinstance bo_isinstance (by refine (x_lc (x_var 0) ?_); refine (x_lc (x_gl g_NoCell) ?_); exact il_nil)) ?_); exact il_nil)))))
  (iss_cons (by exact (x_set 1 sc__law_marks.nd (ig_bin br_add (x_var 1) (ig_lst (by refine (x_lc (x_blt (bc_isF hEA hCT) b_isinstance bo_isinstance (by refine (x_lc (x_var 0) ?_); refine (x_lc (x_gl g_BadWeaving) ?_); exact il_nil)) ?_); refine (x_lc (x_blt (bc_isF hEA hCT) b_isinstance bo_isinstance (by refine (x_lc (x_var 0) ?_); refine (x_lc (x_gl g_TooMany) ?_); exact il_nil)) ?_); refine (x_lc (x_blt (bc_isF hEA hCT) b_isinstance bo_isinstance (by refine (x_lc (x_var 0) ?_); refine (x_lc (x_gl g_BadWrongs) ?_); exact il_nil)) ?_); exact il_nil)))))
  (iss_cons (by exact (x_set 1 sc__law_marks.nd (ig_bin br_add (x_var 1) (ig_lst (by refine (x_lc (x_blt (bc_isF hEA hCT) b_isinstance bo_isinstance (by refine (x_lc (x_var 0) ?_); refine (x_lc (x_gl g_BadText) ?_); exact il_nil)) ?_); refine (x_lc (x_blt (bc_isF hEA hCT) b_isinstance bo_isinstance (by refine (x_lc (x_var 0) ?_); refine (x_lc (x_gl g_BadCourse) ?_); exact il_nil)) ?_); refine (x_lc (x_blt (bc_isF hEA hCT) b_isinstance bo_isinstance (by refine (x_lc (x_var 0) ?_); refine (x_lc (x_gl g_BadTiming) ?_); exact il_nil)) ?_); exact il_nil)))))
  (iss_cons (by exact (x_set 1 sc__law_marks.nd (ig_bin br_add (x_var 1) (ig_lst (by refine (x_lc (x_blt (bc_isF hEA hCT) b_isinstance bo_isinstance (by refine (x_lc (x_var 0) ?_); refine (x_lc (x_gl g_BadJournal) ?_); exact il_nil)) ?_); exact il_nil)))))
  (iss_cons (by exact (x_set 1 sc__law_marks.nd (ig_bin br_add (x_var 1) (ig_lst (by refine (x_lc (x_blt (bc_isF hEA hCT) b_isinstance bo_isinstance (by refine (x_lc (x_var 0) ?_); refine (x_lc (x_gl g_BadScene) ?_); exact il_nil)) ?_); refine (x_lc (x_blt (bc_isF hEA hCT) b_isinstance bo_isinstance (by refine (x_lc (x_var 0) ?_); refine (x_lc (x_gl g_BadPattern) ?_); exact il_nil)) ?_); refine (x_lc (x_blt (bc_isF hEA hCT) b_isinstance bo_isinstance (by refine (x_lc (x_var 0) ?_); refine (x_lc (x_gl g_BadWrong) ?_); exact il_nil)) ?_); exact il_nil)))))
  (iss_cons (by exact (x_set 1 sc__law_marks.nd (ig_bin br_add (x_var 1) (ig_lst (by refine (x_lc (x_blt (bc_isF hEA hCT) b_isinstance bo_isinstance (by refine (x_lc (x_var 0) ?_); refine (x_lc (x_gl g_BadName) ?_); exact il_nil)) ?_); refine (x_lc (x_blt (bc_isF hEA hCT) b_isinstance bo_isinstance (by refine (x_lc (x_var 0) ?_); refine (x_lc (x_gl g_BadChecks) ?_); exact il_nil)) ?_); refine (x_lc (x_blt (bc_isF hEA hCT) b_isinstance bo_isinstance (by refine (x_lc (x_var 0) ?_); refine (x_lc (x_gl g_BadBounds) ?_); exact il_nil)) ?_); exact il_nil)))))
  (iss_cons (by exact (x_set 1 sc__law_marks.nd (ig_bin br_add (x_var 1) (ig_lst (by refine (x_lc (x_blt (bc_isF hEA hCT) b_isinstance bo_isinstance (by refine (x_lc (x_var 0) ?_); refine (x_lc (x_gl g_BadStand) ?_); exact il_nil)) ?_); refine (x_lc (x_blt (bc_isF hEA hCT) b_isinstance bo_isinstance (by refine (x_lc (x_var 0) ?_); refine (x_lc (x_gl g_BadSlots) ?_); exact il_nil)) ?_); refine (x_lc (x_blt (bc_isF hEA hCT) b_isinstance bo_isinstance (by refine (x_lc (x_var 0) ?_); refine (x_lc (x_gl g_BadFilling) ?_); exact il_nil)) ?_); exact il_nil)))))
  (iss_cons (by exact (x_set 1 sc__law_marks.nd (ig_bin br_add (x_var 1) (ig_lst (by refine (x_lc (x_blt (bc_isF hEA hCT) b_isinstance bo_isinstance (by refine (x_lc (x_var 0) ?_); refine (x_lc (x_gl g_BadPrices) ?_); exact il_nil)) ?_); refine (x_lc (x_blt (bc_isF hEA hCT) b_isinstance bo_isinstance (by refine (x_lc (x_var 0) ?_); refine (x_lc (x_gl g_NotSafe) ?_); exact il_nil)) ?_); refine (x_lc (x_blt (bc_isF hEA hCT) b_isinstance bo_isinstance (by refine (x_lc (x_var 0) ?_); refine (x_lc (x_gl g_BadNumber) ?_); exact il_nil)) ?_); exact il_nil)))))
  (iss_cons (by exact (x_set 1 sc__law_marks.nd (ig_bin br_add (x_var 1) (ig_lst (by refine (x_lc (x_blt (bc_isF hEA hCT) b_isinstance bo_isinstance (by refine (x_lc (x_var 0) ?_); refine (x_lc (x_gl g_BadFrame) ?_); exact il_nil)) ?_); refine (x_lc (x_blt (bc_isF hEA hCT) b_isinstance bo_isinstance (by refine (x_lc (x_var 0) ?_); refine (x_lc (x_gl g_BadWays) ?_); exact il_nil)) ?_); refine (x_lc (x_blt (bc_isF hEA hCT) b_isinstance bo_isinstance (by refine (x_lc (x_var 0) ?_); refine (x_lc (x_gl g_BadWord) ?_); exact il_nil)) ?_); exact il_nil)))))
  (iss_cons (by exact (x_set 1 sc__law_marks.nd (ig_bin br_add (x_var 1) (ig_lst (by refine (x_lc (x_blt (bc_isF hEA hCT) b_isinstance bo_isinstance (by refine (x_lc (x_var 0) ?_); refine (x_lc (x_gl g_BadTimed) ?_); exact il_nil)) ?_); refine (x_lc (x_blt (bc_isF hEA hCT) b_isinstance bo_isinstance (by refine (x_lc (x_var 0) ?_); refine (x_lc (x_gl g_BadTold) ?_); exact il_nil)) ?_); refine (x_lc (x_blt (bc_isF hEA hCT) b_isinstance bo_isinstance (by refine (x_lc (x_var 0) ?_); refine (x_lc (x_gl g_BadWay) ?_); exact il_nil)) ?_); exact il_nil)))))
  (iss_cons (by exact (x_set 1 sc__law_marks.nd (ig_bin br_add (x_var 1) (ig_lst (by refine (x_lc (x_blt (bc_isF hEA hCT) b_isinstance bo_isinstance (by refine (x_lc (x_var 0) ?_); refine (x_lc (x_gl g_BadDeed) ?_); exact il_nil)) ?_); refine (x_lc (x_blt (bc_isF hEA hCT) b_isinstance bo_isinstance (by refine (x_lc (x_var 0) ?_); refine (x_lc (x_gl g_NothingDone) ?_); exact il_nil)) ?_); exact il_nil)))))
  (iss_one (by exact (is_ret (x_mv 1)))))))))))))))))
theorem sc_law : FnScope N_law ps_law (defScope (top 47)) := ⟨rfl, rfl, rfl, by decide +kernel, rfl, by decide +kernel, by decide +kernel⟩
theorem w_law (F : FunD K "law" "law" (defArgs (top 47)) (defBody (top 47)) (defScope (top 47)) [] [] f fd)
    (c__law_begun : CalF P w K mg base 1 "_law_begun" ps__law_begun [] m__law_begun)
    (c__law_value : CalF P w K mg base 4 "_law_value" ps__law_value [] m__law_value)
    (c__law_pick : CalF P w K mg base 3 "_law_pick" ps__law_pick [] m__law_pick)
    (c__law_kept : CalF P w K mg base 4 "_law_kept" ps__law_kept [] m__law_kept)
    (c__law_said : CalF P w K mg base 1 "_law_said" ps__law_said [] m__law_said)
    (c__law_values : CalF P w K mg base 2 "_law_values" ps__law_values [] m__law_values)
    (c__law_marks : CalF P w K mg base 1 "_law_marks" ps__law_marks [] m__law_marks) (b_range : mg "range" = none) (b_min : mg "min" = none) (b_len : mg "len" = none) (b_repr : mg "repr" = none) (b_enumerate : mg "enumerate" = none) (b_isinstance : mg "isinstance" = none) (b_ValueError : mg "ValueError" = none) (g_FarError : GlD K mg "FarError" (.glo "FarError")) (hEA : ExA K mg es) (hS : SysD K) (hCT : ClsT K mg ct) :
    FnG P w K mg base 5 f fd ps_law (spD K mg ps_law.length m_law) :=
  fnD_of (N := N_law) (ps := ps_law) (Pr := P_law) (mb := b_law) F sc_law fun cdv A outer s H E hr hg =>
  (iss_cons (by exact (x_set 1 sc_law.nd (x_call c__law_begun (hr.mono (by decide)) hg (x_ae (x_var 0) x_a0))))
  (iss_cons (by exact (x_for PassesOwn.never (x_rng1 b_range (by refine (x_lc (ig_bin br_add ig_int (x_blt (bc_min2 rfl) b_min bo_min (by refine (x_lc (x_blt bc_len b_len bo_len (by refine (x_lc (x_var 0) ?_); exact il_nil)) ?_); refine (x_lc ig_int ?_); exact il_nil))) ?_); exact il_nil)) (x_tg 2 sc_law.nd)
  (iss_cons (by exact (is_par (es := []) (i := 3) (j := 4) rfl rfl rfl sc_law.nd rfl rfl (by decide) rfl rfl (by refine (x_lc (x_call c__law_value (hr.mono (by decide)) hg (x_av 1 x_a0)) ?_); refine (x_lc (x_call c__law_pick (hr.mono (by decide)) hg (x_av 1 (x_ae (ig_fz (ig_lst (by refine (x_lc ig_str ?_); refine (x_lc ig_str ?_); refine (x_lc (ig_bin br_mulS ig_str ig_int) ?_); exact il_nil))) x_a0))) ?_); exact il_nil) rfl rfl))
  (iss_cons (by exact (is_par (es := []) (i := 5) (j := 6) rfl rfl rfl sc_law.nd rfl rfl (by decide) rfl rfl (by refine (x_lc (x_call c__law_kept (hr.mono (by decide)) hg (x_ae (x_var 3) x_a0)) ?_); refine (x_lc (x_call c__law_said (hr.mono (by decide)) hg (x_ae (x_var 4) x_a0)) ?_); exact il_nil) rfl rfl))
  (iss_cons (by exact (is_if (x_tcmp (br_ne (lt64 (Room.u65 hr))) (x_blt (bc_repr hS hg (Room.u65 hr)) b_repr bo_repr (by refine (x_lc (x_call c__law_values (hr.mono (by decide)) hg (x_ae (x_var 5) x_a0)) ?_); exact il_nil)) (x_blt (bc_repr hS hg (Room.u65 hr)) b_repr bo_repr (by refine (x_lc (ig_bin br_mul (ig_lst (by refine (x_lc (x_var 3) ?_); exact il_nil)) (x_blt bc_len b_len bo_len (by refine (x_lc (x_var 5) ?_); exact il_nil))) ?_); exact il_nil)))
  (iss_one (by exact (is_ret ig_bl)))
  iss_nil))
  (iss_one (by exact (x_for PassesOwn.never (x_enum2 b_enumerate (by refine (x_lc (ig_bin br_add (x_var 5) (x_var 6)) ?_); exact il_nil)) (it_tup rfl (its_cons (x_tg 7 sc_law.nd) (its_cons (x_tg 8 sc_law.nd) its_nil rfl) rfl) rfl rfl (tsCons_len (tsCons_len tsNil_len)))
  (iss_cons (by exact (x_set 9 sc_law.nd (ig_if (x_tcmp br_lt (x_var 7) ig_int) (ig_bin br_fdiv (x_var 7) ig_int) (ig_bin br_sub (x_var 7) ig_int))))
  (iss_cons (by exact (is_if (it_w (iw_or (it_not (x_val (x_blt (bc_isF hEA hCT) b_isinstance bo_isinstance (by refine (x_lc (x_var 8) ?_); refine (x_lc (x_gl g_FarError) ?_); exact il_nil)))) (iw_or1 (it_not (x_val (x_isVE hEA b_isinstance b_ValueError (x_var 8)))))))
  (iss_one (by exact (is_ret ig_bl)))
  iss_nil))
  (iss_one (by exact (is_if (x_tcmp (br_ne (lt64 (Room.u65 hr))) (x_call c__law_marks (hr.mono (by decide)) hg (x_ae (x_var 8) x_a0)) (x_lcomp (own := [("_law_k", 10)]) sc_law.nd (x_rng1 b_range (by refine (x_lc ig_int ?_); exact il_nil)) (by show BlkOk N_law (defScope (top 47)) _ _; exact ⟨rfl, by decide +kernel, by decide +kernel, by decide +kernel, by decide +kernel⟩) (fun _ _ _ _ _ => (x_tg 10 sc_law.nd)) (fun _ _ _ _ _ => its0) (fun _ _ _ _ _ => (x_cmp (br_eq (lt64 (Room.u65 hr))) (x_var 10) (x_var 9)))))
  (iss_one (by exact (is_ret ig_bl)))
  iss_nil)))))))))))))
  (iss_one (by exact (is_ret ig_bl)))))
end
end K01
set_option Elab.async false
set_option linter.all false
set_option maxRecDepth 100000
set_option maxHeartbeats 0
namespace K01
open PySem PySem.Spec PyProof.Rows L2 DL LamX
theorem facts {P : Program} {w : World} {K : PySem.W.Frag} {h : Heap} {mg : Str → Option Value} {f : Addr} (X : K.In h) (G : h.Ns mainGlobals mg) (hfa : mg ("law" : Str) = some (.ref f)) (c : SaysS fa fn ex K) :
    ∃ fd : FuncData, (∀ (s : Shared) (v : Value), BindsTo s fd ⟨[v], []⟩ [("_law_script", v)]) ∧ ∀ base : Heap, K.In base → base.Ns mainGlobals mg → FnG P w K mg base 5 f fd ["_law_script"] (spD K mg 1 m_law) := by
  have hS : SysD K := c.sys
  have b_abs : mg "abs" = none := He.free_ok X G (c.old.fact 12 (f := .free "abs") rfl)
  have b_int : mg "int" = none := He.free_ok X G (c.old.fact 13 (f := .free "int") rfl)
  have b_len : mg "len" = none := He.free_ok X G (c.old.fact 14 (f := .free "len") rfl)
  have b_enumerate : mg "enumerate" = none := He.free_ok X G (c.old.fact 15 (f := .free "enumerate") rfl)
  have b_isinstance : mg "isinstance" = none := He.free_ok X G (c.old.fact 16 (f := .free "isinstance") rfl)
  have b_range : mg "range" = none := He.free_ok X G (c.old.fact 17 (f := .free "range") rfl)
  have b_min : mg "min" = none := He.free_ok X G (c.old.fact 18 (f := .free "min") rfl)
  have b_repr : mg "repr" = none := He.free_ok X G (c.old.fact 19 (f := .free "repr") rfl)
  have b_ValueError : mg "ValueError" = none := He.free_ok X G (c.old.fact 20 (f := .free "ValueError") rfl)
  have hx1 := He.ba c.ext
  have hx2 := He.ba hx1.2
  have hx3 := He.ba hx2.2
  have hext := He.ba hx3.2
  have hxf : basB K (He.ga K "FarError") = true ∧ oneFB K "BadHall" "part" = true ∧ oneFB K "BadRules" "at" = true ∧ oneFB K "BadScheme" "part" = true ∧ oneFB K "NoKeeper" "name" = true ∧ oneFB K "NoRule" "index" = true ∧ oneFB K "NoCell" "cell" = true ∧ oneFB K "BadWeaving" "at" = true ∧ oneFB K "TooMany" "most" = true ∧ oneFB K "BadWrongs" "at" = true ∧ oneFB K "BadText" "line" = true ∧ oneFB K "BadCourse" "at" = true ∧ oneFB K "BadTiming" "part" = true ∧ oneFB K "BadJournal" "at" = true := by
    have z := hx3.1
    simp only [Bool.and_eq_true, and_assoc] at z
    exact z
  have gx_BadHall := He.glo_ok X G (c.old.fact 22 (f := .glo "BadHall") rfl)
  have gx_BadRules := He.glo_ok X G (c.old.fact 23 (f := .glo "BadRules") rfl)
  have gx_BadScheme := He.glo_ok X G (c.old.fact 24 (f := .glo "BadScheme") rfl)
  have gx_NoKeeper := He.glo_ok X G (c.old.fact 25 (f := .glo "NoKeeper") rfl)
  have gx_NoRule := He.glo_ok X G (c.old.fact 26 (f := .glo "NoRule") rfl)
  have gx_NoCell := He.glo_ok X G (c.old.fact 27 (f := .glo "NoCell") rfl)
  have gx_BadWeaving := He.glo_ok X G (c.old.fact 28 (f := .glo "BadWeaving") rfl)
  have gx_TooMany := He.glo_ok X G (c.old.fact 29 (f := .glo "TooMany") rfl)
  have gx_BadWrongs := He.glo_ok X G (c.old.fact 30 (f := .glo "BadWrongs") rfl)
  have gx_BadText := He.glo_ok X G (c.old.fact 31 (f := .glo "BadText") rfl)
  have gx_BadCourse := He.glo_ok X G (c.old.fact 32 (f := .glo "BadCourse") rfl)
  have gx_BadTiming := He.glo_ok X G (c.old.fact 33 (f := .glo "BadTiming") rfl)
  have gx_BadJournal := He.glo_ok X G (c.old.fact 34 (f := .glo "BadJournal") rfl)
  have gx_BadScene := He.glo_ok X G (c.old.fact 35 (f := .glo "BadScene") rfl)
  have gx_BadPattern := He.glo_ok X G (c.old.fact 36 (f := .glo "BadPattern") rfl)
  have gx_BadWrong := He.glo_ok X G (c.old.fact 37 (f := .glo "BadWrong") rfl)
  have gx_BadName := He.glo_ok X G (c.old.fact 38 (f := .glo "BadName") rfl)
  have gx_BadChecks := He.glo_ok X G (c.old.fact 39 (f := .glo "BadChecks") rfl)
  have gx_BadBounds := He.glo_ok X G (c.old.fact 40 (f := .glo "BadBounds") rfl)
  have gx_BadStand := He.glo_ok X G (c.old.fact 41 (f := .glo "BadStand") rfl)
  have gx_BadSlots := He.glo_ok X G (c.old.fact 42 (f := .glo "BadSlots") rfl)
  have gx_BadFilling := He.glo_ok X G (c.old.fact 43 (f := .glo "BadFilling") rfl)
  have gx_BadPrices := He.glo_ok X G (c.old.fact 44 (f := .glo "BadPrices") rfl)
  have gx_NotSafe := He.glo_ok X G (c.old.fact 45 (f := .glo "NotSafe") rfl)
  have gx_BadNumber := He.glo_ok X G (c.old.fact 46 (f := .glo "BadNumber") rfl)
  have gx_BadFrame := He.glo_ok X G (c.old.fact 47 (f := .glo "BadFrame") rfl)
  have gx_BadWays := He.glo_ok X G (c.old.fact 48 (f := .glo "BadWays") rfl)
  have gx_BadWord := He.glo_ok X G (c.old.fact 49 (f := .glo "BadWord") rfl)
  have gx_BadTimed := He.glo_ok X G (c.old.fact 50 (f := .glo "BadTimed") rfl)
  have gx_BadTold := He.glo_ok X G (c.old.fact 51 (f := .glo "BadTold") rfl)
  have gx_BadWay := He.glo_ok X G (c.old.fact 52 (f := .glo "BadWay") rfl)
  have gx_BadDeed := He.glo_ok X G (c.old.fact 53 (f := .glo "BadDeed") rfl)
  have gx_NothingDone := He.glo_ok X G (c.old.fact 54 (f := .glo "NothingDone") rfl)
  have gx_FarError := He.glo_ok X G (c.old.fact 21 (f := .glo "FarError") rfl)
  have hEA : ExA K mg es := exA_of hx1.1 (fun p hp => by
    rcases List.mem_cons.mp hp with rfl | hp
    · exact gx_BadHall
    rcases List.mem_cons.mp hp with rfl | hp
    · exact gx_BadRules
    rcases List.mem_cons.mp hp with rfl | hp
    · exact gx_BadScheme
    rcases List.mem_cons.mp hp with rfl | hp
    · exact gx_NoKeeper
    rcases List.mem_cons.mp hp with rfl | hp
    · exact gx_NoRule
    rcases List.mem_cons.mp hp with rfl | hp
    · exact gx_NoCell
    rcases List.mem_cons.mp hp with rfl | hp
    · exact gx_BadWeaving
    rcases List.mem_cons.mp hp with rfl | hp
    · exact gx_TooMany
    rcases List.mem_cons.mp hp with rfl | hp
    · exact gx_BadWrongs
    rcases List.mem_cons.mp hp with rfl | hp
    · exact gx_BadText
    rcases List.mem_cons.mp hp with rfl | hp
    · exact gx_BadCourse
    rcases List.mem_cons.mp hp with rfl | hp
    · exact gx_BadTiming
    rcases List.mem_cons.mp hp with rfl | hp
    · exact gx_BadJournal
    rcases List.mem_cons.mp hp with rfl | hp
    · exact gx_BadScene
    rcases List.mem_cons.mp hp with rfl | hp
    · exact gx_BadPattern
    rcases List.mem_cons.mp hp with rfl | hp
    · exact gx_BadWrong
    rcases List.mem_cons.mp hp with rfl | hp
    · exact gx_BadName
    rcases List.mem_cons.mp hp with rfl | hp
    · exact gx_BadChecks
    rcases List.mem_cons.mp hp with rfl | hp
    · exact gx_BadBounds
    rcases List.mem_cons.mp hp with rfl | hp
    · exact gx_BadStand
    rcases List.mem_cons.mp hp with rfl | hp
    · exact gx_BadSlots
    rcases List.mem_cons.mp hp with rfl | hp
    · exact gx_BadFilling
    rcases List.mem_cons.mp hp with rfl | hp
    · exact gx_BadPrices
    rcases List.mem_cons.mp hp with rfl | hp
    · exact gx_NotSafe
    rcases List.mem_cons.mp hp with rfl | hp
    · exact gx_BadNumber
    rcases List.mem_cons.mp hp with rfl | hp
    · exact gx_BadFrame
    rcases List.mem_cons.mp hp with rfl | hp
    · exact gx_BadWays
    rcases List.mem_cons.mp hp with rfl | hp
    · exact gx_BadWord
    rcases List.mem_cons.mp hp with rfl | hp
    · exact gx_BadTimed
    rcases List.mem_cons.mp hp with rfl | hp
    · exact gx_BadTold
    rcases List.mem_cons.mp hp with rfl | hp
    · exact gx_BadWay
    rcases List.mem_cons.mp hp with rfl | hp
    · exact gx_BadDeed
    rcases List.mem_cons.mp hp with rfl | hp
    · exact gx_NothingDone
    rcases List.mem_cons.mp hp with rfl | hp
    · exact gx_FarError
    cases hp)
  have hEP : ExP K mg pl := exP_of hx2.1 (fun p hp => by
    rcases List.mem_cons.mp hp with rfl | hp
    · exact gx_BadScene
    rcases List.mem_cons.mp hp with rfl | hp
    · exact gx_BadPattern
    rcases List.mem_cons.mp hp with rfl | hp
    · exact gx_BadWrong
    rcases List.mem_cons.mp hp with rfl | hp
    · exact gx_BadName
    rcases List.mem_cons.mp hp with rfl | hp
    · exact gx_BadChecks
    rcases List.mem_cons.mp hp with rfl | hp
    · exact gx_BadBounds
    rcases List.mem_cons.mp hp with rfl | hp
    · exact gx_BadStand
    rcases List.mem_cons.mp hp with rfl | hp
    · exact gx_BadSlots
    rcases List.mem_cons.mp hp with rfl | hp
    · exact gx_BadFilling
    rcases List.mem_cons.mp hp with rfl | hp
    · exact gx_BadPrices
    rcases List.mem_cons.mp hp with rfl | hp
    · exact gx_NotSafe
    rcases List.mem_cons.mp hp with rfl | hp
    · exact gx_BadNumber
    rcases List.mem_cons.mp hp with rfl | hp
    · exact gx_BadFrame
    rcases List.mem_cons.mp hp with rfl | hp
    · exact gx_BadWays
    rcases List.mem_cons.mp hp with rfl | hp
    · exact gx_BadWord
    rcases List.mem_cons.mp hp with rfl | hp
    · exact gx_BadTimed
    rcases List.mem_cons.mp hp with rfl | hp
    · exact gx_BadTold
    rcases List.mem_cons.mp hp with rfl | hp
    · exact gx_BadWay
    rcases List.mem_cons.mp hp with rfl | hp
    · exact gx_BadDeed
    rcases List.mem_cons.mp hp with rfl | hp
    · exact gx_NothingDone
    cases hp)
  have hBC : BasC K mg "FarError" _ := bas_of hxf.1 gx_FarError
  have ofb_BadHall := hxf.2.1
  have ofb_BadRules := hxf.2.2.1
  have ofb_BadScheme := hxf.2.2.2.1
  have ofb_NoKeeper := hxf.2.2.2.2.1
  have ofb_NoRule := hxf.2.2.2.2.2.1
  have ofb_NoCell := hxf.2.2.2.2.2.2.1
  have ofb_BadWeaving := hxf.2.2.2.2.2.2.2.1
  have ofb_TooMany := hxf.2.2.2.2.2.2.2.2.1
  have ofb_BadWrongs := hxf.2.2.2.2.2.2.2.2.2.1
  have ofb_BadText := hxf.2.2.2.2.2.2.2.2.2.2.1
  have ofb_BadCourse := hxf.2.2.2.2.2.2.2.2.2.2.2.1
  have ofb_BadTiming := hxf.2.2.2.2.2.2.2.2.2.2.2.2.1
  have ofb_BadJournal := hxf.2.2.2.2.2.2.2.2.2.2.2.2.2
  have xf_part : AtX K mg ["BadHall", "BadScheme", "BadTiming"] "part" := (atX_cons gx_BadHall (hEA.oneC (by decide) gx_BadHall) (oneF_of ofb_BadHall).no (atX_cons gx_BadScheme (hEA.oneC (by decide) gx_BadScheme) (oneF_of ofb_BadScheme).no (atX_cons gx_BadTiming (hEA.oneC (by decide) gx_BadTiming) (oneF_of ofb_BadTiming).no atX_nil)))
  have xf_at : AtX K mg ["BadRules", "BadWeaving", "BadWrongs", "BadCourse", "BadJournal"] "at" := (atX_cons gx_BadRules (hEA.oneC (by decide) gx_BadRules) (oneF_of ofb_BadRules).no (atX_cons gx_BadWeaving (hEA.oneC (by decide) gx_BadWeaving) (oneF_of ofb_BadWeaving).no (atX_cons gx_BadWrongs (hEA.oneC (by decide) gx_BadWrongs) (oneF_of ofb_BadWrongs).no (atX_cons gx_BadCourse (hEA.oneC (by decide) gx_BadCourse) (oneF_of ofb_BadCourse).no (atX_cons gx_BadJournal (hEA.oneC (by decide) gx_BadJournal) (oneF_of ofb_BadJournal).no atX_nil)))))
  have xf_name : AtX K mg ["NoKeeper"] "name" := (atX_cons gx_NoKeeper (hEA.oneC (by decide) gx_NoKeeper) (oneF_of ofb_NoKeeper).no atX_nil)
  have xf_index : AtX K mg ["NoRule"] "index" := (atX_cons gx_NoRule (hEA.oneC (by decide) gx_NoRule) (oneF_of ofb_NoRule).no atX_nil)
  have xf_cell : AtX K mg ["NoCell"] "cell" := (atX_cons gx_NoCell (hEA.oneC (by decide) gx_NoCell) (oneF_of ofb_NoCell).no atX_nil)
  have xf_most : AtX K mg ["TooMany"] "most" := (atX_cons gx_TooMany (hEA.oneC (by decide) gx_TooMany) (oneF_of ofb_TooMany).no atX_nil)
  have xf_line : AtX K mg ["BadText"] "line" := (atX_cons gx_BadText (hEA.oneC (by decide) gx_BadText) (oneF_of ofb_BadText).no atX_nil)
  have g_BadHall : GlD K mg "BadHall" (.glo "BadHall") := gl_cls (He.glo_ok X G (c.old.fact 22 (f := .glo "BadHall") rfl))
  have g_BadRules : GlD K mg "BadRules" (.glo "BadRules") := gl_cls (He.glo_ok X G (c.old.fact 23 (f := .glo "BadRules") rfl))
  have g_BadScheme : GlD K mg "BadScheme" (.glo "BadScheme") := gl_cls (He.glo_ok X G (c.old.fact 24 (f := .glo "BadScheme") rfl))
  have g_NoKeeper : GlD K mg "NoKeeper" (.glo "NoKeeper") := gl_cls (He.glo_ok X G (c.old.fact 25 (f := .glo "NoKeeper") rfl))
  have g_NoRule : GlD K mg "NoRule" (.glo "NoRule") := gl_cls (He.glo_ok X G (c.old.fact 26 (f := .glo "NoRule") rfl))
  have g_NoCell : GlD K mg "NoCell" (.glo "NoCell") := gl_cls (He.glo_ok X G (c.old.fact 27 (f := .glo "NoCell") rfl))
  have g_BadWeaving : GlD K mg "BadWeaving" (.glo "BadWeaving") := gl_cls (He.glo_ok X G (c.old.fact 28 (f := .glo "BadWeaving") rfl))
  have g_TooMany : GlD K mg "TooMany" (.glo "TooMany") := gl_cls (He.glo_ok X G (c.old.fact 29 (f := .glo "TooMany") rfl))
  have g_BadWrongs : GlD K mg "BadWrongs" (.glo "BadWrongs") := gl_cls (He.glo_ok X G (c.old.fact 30 (f := .glo "BadWrongs") rfl))
  have g_BadText : GlD K mg "BadText" (.glo "BadText") := gl_cls (He.glo_ok X G (c.old.fact 31 (f := .glo "BadText") rfl))
  have g_BadCourse : GlD K mg "BadCourse" (.glo "BadCourse") := gl_cls (He.glo_ok X G (c.old.fact 32 (f := .glo "BadCourse") rfl))
  have g_BadTiming : GlD K mg "BadTiming" (.glo "BadTiming") := gl_cls (He.glo_ok X G (c.old.fact 33 (f := .glo "BadTiming") rfl))
  have g_BadJournal : GlD K mg "BadJournal" (.glo "BadJournal") := gl_cls (He.glo_ok X G (c.old.fact 34 (f := .glo "BadJournal") rfl))
  have g_BadScene : GlD K mg "BadScene" (.glo "BadScene") := gl_cls (He.glo_ok X G (c.old.fact 35 (f := .glo "BadScene") rfl))
  have g_BadPattern : GlD K mg "BadPattern" (.glo "BadPattern") := gl_cls (He.glo_ok X G (c.old.fact 36 (f := .glo "BadPattern") rfl))
  have g_BadWrong : GlD K mg "BadWrong" (.glo "BadWrong") := gl_cls (He.glo_ok X G (c.old.fact 37 (f := .glo "BadWrong") rfl))
  have g_BadName : GlD K mg "BadName" (.glo "BadName") := gl_cls (He.glo_ok X G (c.old.fact 38 (f := .glo "BadName") rfl))
  have g_BadChecks : GlD K mg "BadChecks" (.glo "BadChecks") := gl_cls (He.glo_ok X G (c.old.fact 39 (f := .glo "BadChecks") rfl))
  have g_BadBounds : GlD K mg "BadBounds" (.glo "BadBounds") := gl_cls (He.glo_ok X G (c.old.fact 40 (f := .glo "BadBounds") rfl))
  have g_BadStand : GlD K mg "BadStand" (.glo "BadStand") := gl_cls (He.glo_ok X G (c.old.fact 41 (f := .glo "BadStand") rfl))
  have g_BadSlots : GlD K mg "BadSlots" (.glo "BadSlots") := gl_cls (He.glo_ok X G (c.old.fact 42 (f := .glo "BadSlots") rfl))
  have g_BadFilling : GlD K mg "BadFilling" (.glo "BadFilling") := gl_cls (He.glo_ok X G (c.old.fact 43 (f := .glo "BadFilling") rfl))
  have g_BadPrices : GlD K mg "BadPrices" (.glo "BadPrices") := gl_cls (He.glo_ok X G (c.old.fact 44 (f := .glo "BadPrices") rfl))
  have g_NotSafe : GlD K mg "NotSafe" (.glo "NotSafe") := gl_cls (He.glo_ok X G (c.old.fact 45 (f := .glo "NotSafe") rfl))
  have g_BadNumber : GlD K mg "BadNumber" (.glo "BadNumber") := gl_cls (He.glo_ok X G (c.old.fact 46 (f := .glo "BadNumber") rfl))
  have g_BadFrame : GlD K mg "BadFrame" (.glo "BadFrame") := gl_cls (He.glo_ok X G (c.old.fact 47 (f := .glo "BadFrame") rfl))
  have g_BadWays : GlD K mg "BadWays" (.glo "BadWays") := gl_cls (He.glo_ok X G (c.old.fact 48 (f := .glo "BadWays") rfl))
  have g_BadWord : GlD K mg "BadWord" (.glo "BadWord") := gl_cls (He.glo_ok X G (c.old.fact 49 (f := .glo "BadWord") rfl))
  have g_BadTimed : GlD K mg "BadTimed" (.glo "BadTimed") := gl_cls (He.glo_ok X G (c.old.fact 50 (f := .glo "BadTimed") rfl))
  have g_BadTold : GlD K mg "BadTold" (.glo "BadTold") := gl_cls (He.glo_ok X G (c.old.fact 51 (f := .glo "BadTold") rfl))
  have g_BadWay : GlD K mg "BadWay" (.glo "BadWay") := gl_cls (He.glo_ok X G (c.old.fact 52 (f := .glo "BadWay") rfl))
  have g_BadDeed : GlD K mg "BadDeed" (.glo "BadDeed") := gl_cls (He.glo_ok X G (c.old.fact 53 (f := .glo "BadDeed") rfl))
  have g_NothingDone : GlD K mg "NothingDone" (.glo "NothingDone") := gl_cls (He.glo_ok X G (c.old.fact 54 (f := .glo "NothingDone") rfl))
  have g_FarError : GlD K mg "FarError" (.glo "FarError") := gl_cls (He.glo_ok X G (c.old.fact 21 (f := .glo "FarError") rfl))
  have hCT : ClsT K mg ct := clsT_of X G hext.1 (fun p hp => by
    cases hp)
  obtain ⟨fd__law_begun, F__law_begun⟩ := c.old.def_ 0 (d := dd "_law_begun" 36) rfl
  obtain ⟨fd__law_mixed, F__law_mixed⟩ := c.old.def_ 1 (d := dd "_law_mixed" 37) rfl
  obtain ⟨fd__law_take, F__law_take⟩ := c.old.def_ 2 (d := dd "_law_take" 38) rfl
  obtain ⟨fd__law_pick, F__law_pick⟩ := c.old.def_ 3 (d := dd "_law_pick" 39) rfl
  obtain ⟨fd__law_value, F__law_value⟩ := c.old.def_ 4 (d := dd "_law_value" 40) rfl
  obtain ⟨fd__law_kept, F__law_kept⟩ := c.old.def_ 5 (d := dd "_law_kept" 41) rfl
  obtain ⟨fd__law_said, F__law_said⟩ := c.old.def_ 6 (d := dd "_law_said" 45) rfl
  obtain ⟨fd__law_fields, F__law_fields⟩ := c.old.def_ 7 (d := dd "_law_fields" 43) rfl
  obtain ⟨fd__law_field, F__law_field⟩ := c.old.def_ 8 (d := dd "_law_field" 44) rfl
  obtain ⟨fd__law_values, F__law_values⟩ := c.old.def_ 9 (d := dd "_law_values" 42) rfl
  obtain ⟨fd__law_marks, F__law_marks⟩ := c.old.def_ 10 (d := dd "_law_marks" 46) rfl
  obtain ⟨fd_law, F_law⟩ := c.old.def_ 11 (d := dd "law" 47) rfl
  obtain ⟨fdx_BadHall, FX_BadHall⟩ := c.old.def_ 12 (d := dm "BadHall" "__init__" "BadHall.__init__" 2 0) rfl
  have e_BadHall : ∀ base : Heap, K.In base → CalE P w K mg base 2 "BadHall" "part" "part" := fun base _ => calE_of (x := "FarError") (self := "self") FX_BadHall ⟨rfl, rfl, rfl, by decide +kernel, rfl, by decide +kernel, by decide +kernel⟩ hBC ofb_BadHall gx_BadHall rfl rfl rfl (by decide) (by decide) (by decide) (by decide) (by decide) (fun env => ⟨_, rfl⟩) (fun env => rfl) (fun env => rfl) (fun _ _ _ _ _ _ us hl => match us, hl with | [_, _], _ => rfl) (fun _ _ _ _ _ _ _ _ => rfl)
  obtain ⟨fdx_BadRules, FX_BadRules⟩ := c.old.def_ 13 (d := dm "BadRules" "__init__" "BadRules.__init__" 7 0) rfl
  have e_BadRules : ∀ base : Heap, K.In base → CalE P w K mg base 2 "BadRules" "at" "at" := fun base _ => calE_of (x := "FarError") (self := "self") FX_BadRules ⟨rfl, rfl, rfl, by decide +kernel, rfl, by decide +kernel, by decide +kernel⟩ hBC ofb_BadRules gx_BadRules rfl rfl rfl (by decide) (by decide) (by decide) (by decide) (by decide) (fun env => ⟨_, rfl⟩) (fun env => rfl) (fun env => rfl) (fun _ _ _ _ _ _ us hl => match us, hl with | [_, _], _ => rfl) (fun _ _ _ _ _ _ _ _ => rfl)
  obtain ⟨fdx_BadScheme, FX_BadScheme⟩ := c.old.def_ 14 (d := dm "BadScheme" "__init__" "BadScheme.__init__" 8 0) rfl
  have e_BadScheme : ∀ base : Heap, K.In base → CalE P w K mg base 2 "BadScheme" "part" "part" := fun base _ => calE_of (x := "FarError") (self := "self") FX_BadScheme ⟨rfl, rfl, rfl, by decide +kernel, rfl, by decide +kernel, by decide +kernel⟩ hBC ofb_BadScheme gx_BadScheme rfl rfl rfl (by decide) (by decide) (by decide) (by decide) (by decide) (fun env => ⟨_, rfl⟩) (fun env => rfl) (fun env => rfl) (fun _ _ _ _ _ _ us hl => match us, hl with | [_, _], _ => rfl) (fun _ _ _ _ _ _ _ _ => rfl)
  obtain ⟨fdx_NoKeeper, FX_NoKeeper⟩ := c.old.def_ 15 (d := dm "NoKeeper" "__init__" "NoKeeper.__init__" 9 0) rfl
  have e_NoKeeper : ∀ base : Heap, K.In base → CalE P w K mg base 2 "NoKeeper" "name" "name" := fun base _ => calE_of (x := "FarError") (self := "self") FX_NoKeeper ⟨rfl, rfl, rfl, by decide +kernel, rfl, by decide +kernel, by decide +kernel⟩ hBC ofb_NoKeeper gx_NoKeeper rfl rfl rfl (by decide) (by decide) (by decide) (by decide) (by decide) (fun env => ⟨_, rfl⟩) (fun env => rfl) (fun env => rfl) (fun _ _ _ _ _ _ us hl => match us, hl with | [_, _], _ => rfl) (fun _ _ _ _ _ _ _ _ => rfl)
  obtain ⟨fdx_NoRule, FX_NoRule⟩ := c.old.def_ 16 (d := dm "NoRule" "__init__" "NoRule.__init__" 10 0) rfl
  have e_NoRule : ∀ base : Heap, K.In base → CalE P w K mg base 2 "NoRule" "index" "index" := fun base _ => calE_of (x := "FarError") (self := "self") FX_NoRule ⟨rfl, rfl, rfl, by decide +kernel, rfl, by decide +kernel, by decide +kernel⟩ hBC ofb_NoRule gx_NoRule rfl rfl rfl (by decide) (by decide) (by decide) (by decide) (by decide) (fun env => ⟨_, rfl⟩) (fun env => rfl) (fun env => rfl) (fun _ _ _ _ _ _ us hl => match us, hl with | [_, _], _ => rfl) (fun _ _ _ _ _ _ _ _ => rfl)
  obtain ⟨fdx_NoCell, FX_NoCell⟩ := c.old.def_ 17 (d := dm "NoCell" "__init__" "NoCell.__init__" 11 0) rfl
  have e_NoCell : ∀ base : Heap, K.In base → CalE P w K mg base 2 "NoCell" "cell" "cell" := fun base _ => calE_of (x := "FarError") (self := "self") FX_NoCell ⟨rfl, rfl, rfl, by decide +kernel, rfl, by decide +kernel, by decide +kernel⟩ hBC ofb_NoCell gx_NoCell rfl rfl rfl (by decide) (by decide) (by decide) (by decide) (by decide) (fun env => ⟨_, rfl⟩) (fun env => rfl) (fun env => rfl) (fun _ _ _ _ _ _ us hl => match us, hl with | [_, _], _ => rfl) (fun _ _ _ _ _ _ _ _ => rfl)
  obtain ⟨fdx_BadWeaving, FX_BadWeaving⟩ := c.old.def_ 18 (d := dm "BadWeaving" "__init__" "BadWeaving.__init__" 13 0) rfl
  have e_BadWeaving : ∀ base : Heap, K.In base → CalE P w K mg base 2 "BadWeaving" "at" "at" := fun base _ => calE_of (x := "FarError") (self := "self") FX_BadWeaving ⟨rfl, rfl, rfl, by decide +kernel, rfl, by decide +kernel, by decide +kernel⟩ hBC ofb_BadWeaving gx_BadWeaving rfl rfl rfl (by decide) (by decide) (by decide) (by decide) (by decide) (fun env => ⟨_, rfl⟩) (fun env => rfl) (fun env => rfl) (fun _ _ _ _ _ _ us hl => match us, hl with | [_, _], _ => rfl) (fun _ _ _ _ _ _ _ _ => rfl)
  obtain ⟨fdx_TooMany, FX_TooMany⟩ := c.old.def_ 19 (d := dm "TooMany" "__init__" "TooMany.__init__" 16 0) rfl
  have e_TooMany : ∀ base : Heap, K.In base → CalE P w K mg base 2 "TooMany" "most" "most" := fun base _ => calE_of (x := "FarError") (self := "self") FX_TooMany ⟨rfl, rfl, rfl, by decide +kernel, rfl, by decide +kernel, by decide +kernel⟩ hBC ofb_TooMany gx_TooMany rfl rfl rfl (by decide) (by decide) (by decide) (by decide) (by decide) (fun env => ⟨_, rfl⟩) (fun env => rfl) (fun env => rfl) (fun _ _ _ _ _ _ us hl => match us, hl with | [_, _], _ => rfl) (fun _ _ _ _ _ _ _ _ => rfl)
  obtain ⟨fdx_BadWrongs, FX_BadWrongs⟩ := c.old.def_ 20 (d := dm "BadWrongs" "__init__" "BadWrongs.__init__" 17 0) rfl
  have e_BadWrongs : ∀ base : Heap, K.In base → CalE P w K mg base 2 "BadWrongs" "at" "at" := fun base _ => calE_of (x := "FarError") (self := "self") FX_BadWrongs ⟨rfl, rfl, rfl, by decide +kernel, rfl, by decide +kernel, by decide +kernel⟩ hBC ofb_BadWrongs gx_BadWrongs rfl rfl rfl (by decide) (by decide) (by decide) (by decide) (by decide) (fun env => ⟨_, rfl⟩) (fun env => rfl) (fun env => rfl) (fun _ _ _ _ _ _ us hl => match us, hl with | [_, _], _ => rfl) (fun _ _ _ _ _ _ _ _ => rfl)
  obtain ⟨fdx_BadText, FX_BadText⟩ := c.old.def_ 21 (d := dm "BadText" "__init__" "BadText.__init__" 24 0) rfl
  have e_BadText : ∀ base : Heap, K.In base → CalE P w K mg base 2 "BadText" "line" "line" := fun base _ => calE_of (x := "FarError") (self := "self") FX_BadText ⟨rfl, rfl, rfl, by decide +kernel, rfl, by decide +kernel, by decide +kernel⟩ hBC ofb_BadText gx_BadText rfl rfl rfl (by decide) (by decide) (by decide) (by decide) (by decide) (fun env => ⟨_, rfl⟩) (fun env => rfl) (fun env => rfl) (fun _ _ _ _ _ _ us hl => match us, hl with | [_, _], _ => rfl) (fun _ _ _ _ _ _ _ _ => rfl)
  obtain ⟨fdx_BadCourse, FX_BadCourse⟩ := c.old.def_ 22 (d := dm "BadCourse" "__init__" "BadCourse.__init__" 27 0) rfl
  have e_BadCourse : ∀ base : Heap, K.In base → CalE P w K mg base 2 "BadCourse" "at" "at" := fun base _ => calE_of (x := "FarError") (self := "self") FX_BadCourse ⟨rfl, rfl, rfl, by decide +kernel, rfl, by decide +kernel, by decide +kernel⟩ hBC ofb_BadCourse gx_BadCourse rfl rfl rfl (by decide) (by decide) (by decide) (by decide) (by decide) (fun env => ⟨_, rfl⟩) (fun env => rfl) (fun env => rfl) (fun _ _ _ _ _ _ us hl => match us, hl with | [_, _], _ => rfl) (fun _ _ _ _ _ _ _ _ => rfl)
  obtain ⟨fdx_BadTiming, FX_BadTiming⟩ := c.old.def_ 23 (d := dm "BadTiming" "__init__" "BadTiming.__init__" 28 0) rfl
  have e_BadTiming : ∀ base : Heap, K.In base → CalE P w K mg base 2 "BadTiming" "part" "part" := fun base _ => calE_of (x := "FarError") (self := "self") FX_BadTiming ⟨rfl, rfl, rfl, by decide +kernel, rfl, by decide +kernel, by decide +kernel⟩ hBC ofb_BadTiming gx_BadTiming rfl rfl rfl (by decide) (by decide) (by decide) (by decide) (by decide) (fun env => ⟨_, rfl⟩) (fun env => rfl) (fun env => rfl) (fun _ _ _ _ _ _ us hl => match us, hl with | [_, _], _ => rfl) (fun _ _ _ _ _ _ _ _ => rfl)
  obtain ⟨fdx_BadJournal, FX_BadJournal⟩ := c.old.def_ 24 (d := dm "BadJournal" "__init__" "BadJournal.__init__" 32 0) rfl
  have e_BadJournal : ∀ base : Heap, K.In base → CalE P w K mg base 2 "BadJournal" "at" "at" := fun base _ => calE_of (x := "FarError") (self := "self") FX_BadJournal ⟨rfl, rfl, rfl, by decide +kernel, rfl, by decide +kernel, by decide +kernel⟩ hBC ofb_BadJournal gx_BadJournal rfl rfl rfl (by decide) (by decide) (by decide) (by decide) (by decide) (fun env => ⟨_, rfl⟩) (fun env => rfl) (fun env => rfl) (fun _ _ _ _ _ _ us hl => match us, hl with | [_, _], _ => rfl) (fun _ _ _ _ _ _ _ _ => rfl)
  have e := hfa.symm.trans (He.glo_ok X G (c.old.fact 11 (f := .glo "law") rfl))
  cases e
  refine ⟨fd_law, fun s v => FunD.bindsA (ps := ["_law_script"]) F_law (fun _ _ _ _ _ _ us hl => match us, hl with | [_], _ => rfl) s [v] rfl, fun base hbase _ => ?_⟩
  have G__law_begun : FnG P w K mg base 1 _ fd__law_begun ps__law_begun (spD K mg ps__law_begun.length m__law_begun) := w__law_begun F__law_begun b_abs
  have c__law_begun : CalF P w K mg base 1 "_law_begun" ps__law_begun [] m__law_begun := calF_of F__law_begun G__law_begun (He.glo_ok X G (c.old.fact 0 (f := .glo "_law_begun") rfl)) fun _ _ _ _ _ _ us hl => match us, hl with | [_], _ => rfl
  have G__law_mixed : FnG P w K mg base 1 _ fd__law_mixed ps__law_mixed (spD K mg ps__law_mixed.length m__law_mixed) := w__law_mixed F__law_mixed b_int
  have c__law_mixed : CalF P w K mg base 1 "_law_mixed" ps__law_mixed [] m__law_mixed := calF_of F__law_mixed G__law_mixed (He.glo_ok X G (c.old.fact 1 (f := .glo "_law_mixed") rfl)) fun _ _ _ _ _ _ us hl => match us, hl with | [_], _ => rfl
  have G__law_take : FnG P w K mg base 2 _ fd__law_take ps__law_take (spD K mg ps__law_take.length m__law_take) := w__law_take F__law_take c__law_mixed b_int
  have c__law_take : CalF P w K mg base 2 "_law_take" ps__law_take [] m__law_take := calF_of F__law_take G__law_take (He.glo_ok X G (c.old.fact 2 (f := .glo "_law_take") rfl)) fun _ _ _ _ _ _ us hl => match us, hl with | [_, _], _ => rfl
  have G__law_pick : FnG P w K mg base 3 _ fd__law_pick ps__law_pick (spD K mg ps__law_pick.length m__law_pick) := w__law_pick F__law_pick c__law_take b_len
  have c__law_pick : CalF P w K mg base 3 "_law_pick" ps__law_pick [] m__law_pick := calF_of F__law_pick G__law_pick (He.glo_ok X G (c.old.fact 3 (f := .glo "_law_pick") rfl)) fun _ _ _ _ _ _ us hl => match us, hl with | [_, _], _ => rfl
  have G__law_value : FnG P w K mg base 4 _ fd__law_value ps__law_value (spD K mg ps__law_value.length m__law_value) := w__law_value F__law_value c__law_pick
  have c__law_value : CalF P w K mg base 4 "_law_value" ps__law_value [] m__law_value := calF_of F__law_value G__law_value (He.glo_ok X G (c.old.fact 4 (f := .glo "_law_value") rfl)) fun _ _ _ _ _ _ us hl => match us, hl with | [_], _ => rfl
  have G__law_kept : FnG P w K mg base 4 _ fd__law_kept ps__law_kept (spD K mg ps__law_kept.length m__law_kept) := w__law_kept F__law_kept (e_BadHall base hbase) (e_BadRules base hbase) (e_BadScheme base hbase) (e_NoKeeper base hbase) (e_NoRule base hbase) (e_NoCell base hbase) (e_BadWeaving base hbase) (e_TooMany base hbase) (e_BadWrongs base hbase) (e_BadText base hbase) (e_BadCourse base hbase) (e_BadTiming base hbase) (e_BadJournal base hbase)
  have c__law_kept : CalF P w K mg base 4 "_law_kept" ps__law_kept [] m__law_kept := calF_of F__law_kept G__law_kept (He.glo_ok X G (c.old.fact 5 (f := .glo "_law_kept") rfl)) fun _ _ _ _ _ _ us hl => match us, hl with | [_], _ => rfl
  have G__law_said : FnG P w K mg base 1 _ fd__law_said ps__law_said (spD K mg ps__law_said.length m__law_said) := w__law_said F__law_said hEP
  have c__law_said : CalF P w K mg base 1 "_law_said" ps__law_said [] m__law_said := calF_of F__law_said G__law_said (He.glo_ok X G (c.old.fact 6 (f := .glo "_law_said") rfl)) fun _ _ _ _ _ _ us hl => match us, hl with | [_], _ => rfl
  have G__law_fields : FnG P w K mg base 1 _ fd__law_fields ps__law_fields (spD K mg ps__law_fields.length m__law_fields) := w__law_fields F__law_fields 
  have c__law_fields : CalF P w K mg base 1 "_law_fields" ps__law_fields [] m__law_fields := calF_of F__law_fields G__law_fields (He.glo_ok X G (c.old.fact 7 (f := .glo "_law_fields") rfl)) fun _ _ _ _ _ _ us hl => match us, hl with | [], _ => rfl
  have G__law_field : FnG P w K mg base 1 _ fd__law_field ps__law_field (spD K mg ps__law_field.length m__law_field) := w__law_field F__law_field xf_part xf_at xf_name xf_index xf_cell xf_most xf_line
  have c__law_field : CalF P w K mg base 1 "_law_field" ps__law_field [] m__law_field := calF_of F__law_field G__law_field (He.glo_ok X G (c.old.fact 8 (f := .glo "_law_field") rfl)) fun _ _ _ _ _ _ us hl => match us, hl with | [_, _], _ => rfl
  have G__law_values : FnG P w K mg base 2 _ fd__law_values ps__law_values (spD K mg ps__law_values.length m__law_values) := w__law_values F__law_values c__law_fields c__law_field b_enumerate
  have c__law_values : CalF P w K mg base 2 "_law_values" ps__law_values [] m__law_values := calF_of F__law_values G__law_values (He.glo_ok X G (c.old.fact 9 (f := .glo "_law_values") rfl)) fun _ _ _ _ _ _ us hl => match us, hl with | [_], _ => rfl
  have G__law_marks : FnG P w K mg base 1 _ fd__law_marks ps__law_marks (spD K mg ps__law_marks.length m__law_marks) := w__law_marks F__law_marks b_isinstance g_BadHall g_BadRules g_BadScheme g_NoKeeper g_NoRule g_NoCell g_BadWeaving g_TooMany g_BadWrongs g_BadText g_BadCourse g_BadTiming g_BadJournal g_BadScene g_BadPattern g_BadWrong g_BadName g_BadChecks g_BadBounds g_BadStand g_BadSlots g_BadFilling g_BadPrices g_NotSafe g_BadNumber g_BadFrame g_BadWays g_BadWord g_BadTimed g_BadTold g_BadWay g_BadDeed g_NothingDone hEA hCT
  have c__law_marks : CalF P w K mg base 1 "_law_marks" ps__law_marks [] m__law_marks := calF_of F__law_marks G__law_marks (He.glo_ok X G (c.old.fact 10 (f := .glo "_law_marks") rfl)) fun _ _ _ _ _ _ us hl => match us, hl with | [_], _ => rfl
  have G_law : FnG P w K mg base 5 _ fd_law ps_law (spD K mg ps_law.length m_law) := w_law F_law c__law_begun c__law_value c__law_pick c__law_kept c__law_said c__law_values c__law_marks b_range b_min b_len b_repr b_enumerate b_isinstance b_ValueError g_FarError hEA hS hCT
  exact G_law
end K01
set_option Elab.async false
set_option linter.all false
set_option maxRecDepth 100000
set_option maxHeartbeats 0
namespace K01
open PySem PySem.Spec PyProof.Rows L2 DL
theorem ev_alt {a b : MI} {δ : DL.Env} {r : List D × DL.Env} (h : a δ = some r) : iAlt a b δ = some r := by
  unfold iAlt
  rw [h]
theorem path_turn (s : Dr) (r : DL.Env) : mPath 0 (pSub pVar (kC (.str "turn"))) (some s.d :: r) = some (.int s.t, some s.d :: r) := by
  show (match walk s.d [.sub (.inr "turn")] with | some (t, d') => some (t, (some s.d :: r).set 0 (some d')) | none => none) = _
  rw [walk_turn]; rfl
theorem path_rest (s : Dr) (r : DL.Env) : mPath 0 (pSub pVar (kC (.str "rest"))) (some s.d :: r) = some (.int s.r, some s.d :: r) := by
  show (match walk s.d [.sub (.inr "rest")] with | some (t, d') => some (t, (some s.d :: r).set 0 (some d')) | none => none) = _
  rw [walk_rest]; rfl
theorem path_cells (s : Dr) (r : DL.Env) : mPath 0 (pSub pVar (kC (.str "cells"))) (some s.d :: r) = some (.lst false (s.C.map D.int), some ({ s with o := false } : Dr).d :: r) := by
  show (match walk s.d [.sub (.inr "cells")] with | some (t, d') => some (t, (some s.d :: r).set 0 (some d')) | none => none) = _
  rw [walk_cells]; rfl
theorem put_turn {s : Dr} {r r' : DL.Env} {s' : Dr} {e : ME} {i : Int} (h : e (some s.d :: r) = some (.int i, some s'.d :: r')) : sPut 0 pVar (kC (.str "turn")) e (some s.d :: r) = some (.nx (some ({ s' with t := i } : Dr).d :: r')) := by
  unfold sPut
  rw [h]
  show (match dSetIt s'.d (.str "turn") (.int i) with | some t' => some (Fl.nx ((some s'.d :: r').set 0 (some (putO s'.d [] t')))) | none => none) = _
  rw [set_turn]; rfl
theorem put_rest {s : Dr} {r r' : DL.Env} {s' : Dr} {e : ME} {i : Int} (h : e (some s.d :: r) = some (.int i, some s'.d :: r')) : sPut 0 pVar (kC (.str "rest")) e (some s.d :: r) = some (.nx (some ({ s' with r := i } : Dr).d :: r')) := by
  unfold sPut
  rw [h]
  show (match dSetIt s'.d (.str "rest") (.int i) with | some t' => some (Fl.nx ((some s'.d :: r').set 0 (some (putO s'.d [] t')))) | none => none) = _
  rw [set_rest]; rfl
theorem mixed_ok {s : Dr} {b : Nat} (h : s.Ok b) (hb : b < 2 ^ 40) : ∃ v, 0 ≤ v ∧ ∃ s' : Dr, s'.Ok (b + 1) ∧ s'.L = s.L ∧ m__law_mixed [s.d] = some (.int v, [s'.d]) := by
  have ht0 := h.t0
  have ht := h.t
  have h1 : ({ s with t := s.t + 1 } : Dr).Ok (b + 1) := ⟨h.L, h.C, h.r, by show 0 ≤ s.t + 1; omega, by show s.t + 1 ≤ ((b + 1 : Nat) : Int); push_cast; omega, h.ls, h.cs⟩
  obtain ⟨δ', eo, _, s4, f4, x4, y4, z4, h4, hL4, hf4, rfl⟩ := loopF_ind (t := tName 2) (b := (sCons (sSet 3 (mBin dAdd (mBin dMul (mC (.int 104729)) (mPath 0 (pSub pVar (kC (.str "turn"))))) (mBin dFdiv (mVar 2) (mC (.int 7)))))
      (sCons (sFor (iAlt (iAny (mPath 0 (pSub pVar (kC (.str "cells"))))) (keysAt 0 (pSub pVar (kC (.str "cells"))))) (tName 4) (sSet 3 (mBin dMod (mCallB dInt2 (mCons (mBin dAdd (mBin dMul (mVar 3) (mC (.int 48271))) (mVar 4)) mNil)) (mVar 2))))
      (sSet 1 (mBin dAdd (mBin dMul (mVar 1) (mC (.int 2147483647))) (mBin dMod (mCallB dInt2 (mCons (mBin dPow (mVar 3) (mC (.int 5))) mNil)) (mVar 2)))))))
      (J := fun ds δ => (∃ ps : List Int, ds = ps.map D.int ∧ ∀ p ∈ ps, 0 < p ∧ p < 2 ^ 31) ∧ ∃ (s2 : Dr) (f : Int) (x y z : Option D), s2.Ok (b + 1) ∧ s2.L = s.L ∧ 0 ≤ f ∧ δ = [some s2.d, some (.int f), x, y, z])
      (fun d r δ hJ => by
        obtain ⟨⟨ps, e, hp⟩, s2, f, x, y, z, h2, hL, hf, rfl⟩ := hJ
        match ps, e with
        | p :: ps, e =>
          cases e
          obtain ⟨p0, p1⟩ := hp p List.mem_cons_self
          have t20 := h2.t0
          have t2 := h2.t
          have x00 : 0 ≤ 104729 * s2.t + p / 7 := by omega
          have x01 : 104729 * s2.t + p / 7 < 2 ^ 64 := by
            have : (b : Int) < 2 ^ 40 := by exact_mod_cast hb
            push_cast at t2
            omega
          have a1 := ev_set (i := 3) (δ := [some s2.d, some (.int f), some (.int p), y, z]) (ev_bin (g := dAdd) (ev_bin (g := dMul) (a := mC (.int 104729)) rfl (path_turn s2 _) (dMul_l (by decide))) (ev_bin (g := dFdiv) (a := mVar 2) (b := mC (.int 7)) (ev_int rfl) rfl (dFdiv_p (by decide) (by decide))) rfl) (by simp)
          obtain ⟨δi, ei, _, w, x2, x20, x21, rfl⟩ := loopF_ind (t := tName 4) (b := (sSet 3 (mBin dMod (mCallB dInt2 (mCons (mBin dAdd (mBin dMul (mVar 3) (mC (.int 48271))) (mVar 4)) mNil)) (mVar 2))))
            (J := fun ds δ => (∃ cs : List Int, ds = cs.map D.int ∧ ∀ c ∈ cs, 0 ≤ c) ∧ ∃ (w : Option D) (x : Int), 0 ≤ x ∧ x < 2 ^ 64 ∧ δ = [some ({ s2 with o := false } : Dr).d, some (.int f), some (.int p), some (.int x), w])
            (fun d r δ hJ => by
              obtain ⟨⟨cs, e, hc⟩, w, x, x0, x1, rfl⟩ := hJ
              match cs, e with
              | c :: cs, e =>
                cases e
                have c0 := hc c List.mem_cons_self
                refine ⟨_, _, rfl, ev_set (i := 3) (ev_bin (g := dMod) (ev_call1 (g := dInt2) (ev_bin (g := dAdd) (ev_bin (g := dMul) (a := mVar 3) (b := mC (.int 48271)) (ev_int rfl) rfl (dMul_r (by decide))) (ev_int rfl) rfl) rfl) (ev_int rfl) (dMod_p p0)) (by simp), ⟨cs, rfl, fun c hc' => hc c (List.mem_cons_of_mem _ hc')⟩, _, _, ?_, ?_, rfl⟩
                · exact Int.emod_nonneg _ (by omega)
                · have := Int.emod_lt_of_pos (x * 48271 + c) p0
                  omega) (s2.C.map D.int) [some ({ s2 with o := false } : Dr).d, some (.int f), some (.int p), some (.int (104729 * s2.t + p / 7)), z] ⟨⟨s2.C, rfl, h2.C⟩, z, _, x00, x01, rfl⟩
          refine ⟨_, _, rfl, (ev_seq a1).trans ((ev_seq ((ev_for (ev_alt (ev_ints (path_cells s2 _)))).trans ei)).trans (ev_set (i := 1) (ev_bin (g := dAdd) (ev_bin (g := dMul) (a := mVar 1) (b := mC (.int 2147483647)) (ev_int rfl) rfl (dMul_r (by decide))) (ev_bin (g := dMod) (ev_call1 (g := dInt2) (ev_bin (g := dPow) (a := mVar 3) (b := mC (.int 5)) (ev_int rfl) rfl (dPow_p (j := 5) ⟨x20, x21⟩ (by decide))) rfl) (ev_int rfl) (dMod_p p0)) rfl) (by simp))), ⟨ps, rfl, fun q hq => hp q (List.mem_cons_of_mem _ hq)⟩, { s2 with o := false }, _, _, _, _, ⟨h2.L, h2.C, h2.r, h2.t0, h2.t, h2.ls, h2.cs⟩, hL, ?_, rfl⟩
          have := Int.emod_nonneg (x2 ^ 5) (show p ≠ 0 by omega)
          omega) [.int 2147483629, .int 2147483587, .int 2147483579, .int 2147483563] [some ({ s with t := s.t + 1 } : Dr).d, some (.int 0), none, none, none] ⟨⟨[2147483629, 2147483587, 2147483579, 2147483563], rfl, by decide⟩, { s with t := s.t + 1 }, 0, none, none, none, h1, rfl, by decide, rfl⟩
  refine ⟨f4, hf4, s4, h4, hL4, ?_⟩
  have body : b__law_mixed [some s.d, none, none, none, none] = some (.rt (.int f4) [some s4.d, none, x4, y4, z4]) := by
    refine (ev_seq (put_turn (ev_bin (g := dAdd) (path_turn s _) (b := mC (.int 1)) rfl rfl))).trans ((ev_seq (ev_set (i := 1) (m := mC (.int 0)) rfl (by simp))).trans ((ev_seq ((ev_for (ds := [.int 2147483629, .int 2147483587, .int 2147483579, .int 2147483563]) rfl).trans eo)).trans (ev_ret rfl)))
  show (if ([s.d] : List D).length = 1 then match b__law_mixed [some s.d, none, none, none, none] with | some (.rt r δ) => (match backs P__law_mixed 0 [s.d] δ with | some bs => some (r, bs) | none => none) | some (.nx δ) => (match backs P__law_mixed 0 [s.d] δ with | some bs => some (D.non, bs) | none => none) | _ => none else none) = _
  rw [body]
  rfl
theorem take_ok {s : Dr} {b : Nat} {n : Int} (h : s.Ok b) (hb : b < 2 ^ 40) (hn : 0 < n) (hn2 : n < 1073741824) : ∃ v, 0 ≤ v ∧ v < n ∧ ∃ s' : Dr, s'.Ok (b + 1) ∧ m__law_take [s.d, .int n] = some (.int v, [s'.d, .int n]) := by
  have A : ∃ s1 : Dr, s1.Ok (b + 1) ∧ (sIf (toT (mBin dEq (mPath 0 (pSub pVar (kC (.str "rest")))) (mC (.int 0))))
      (sPut 0 pVar (kC (.str "rest")) (mIf (purT [true] (toT (mBin dNe (mPath 0 (pSub pVar (kC (.str "large")))) (mLst mNil)))) (mMethP "list" gPopAt 0 (pSub pVar (kC (.str "large"))) (ksCons (kC (.int 0)) ksNil)) (mCall m__law_mixed [.v 0] [])))
      sNil) [some s.d, some (.int n), none] = some (.nx [some s1.d, some (.int n), none]) := by
    have c0 : toT (mBin dEq (mPath 0 (pSub pVar (kC (.str "rest")))) (mC (.int 0))) [some s.d, some (.int n), none] = some (decide (s.r = 0), [some s.d, some (.int n), none]) := ev_toT (ev_bin (path_rest s _) (b := mC (.int 0)) rfl rfl)
    have up : s.Ok (b + 1) := ⟨h.L, h.C, h.r, h.t0, by have := h.t; push_cast; omega, h.ls, h.cs⟩
    by_cases hr : s.r = 0
    · rw [decide_eq_true hr] at c0
      rw [ev_if1 c0]
      cases hL : s.L with
      | nil =>
        obtain ⟨v, hv, s', h', _, e⟩ := mixed_ok h hb
        refine ⟨{ s' with r := v }, ⟨h'.L, h'.C, hv, h'.t0, h'.t, h'.ls, h'.cs⟩, put_rest ?_⟩
        rw [ev_if_e (ev_large s _), hL]
        exact ev_callv0 rfl e
      | cons x L =>
        have hx : 0 ≤ x := h.L x (by rw [hL]; exact List.mem_cons_self)
        refine ⟨{ s with L := L, r := x }, ⟨fun y hy => h.L y (by rw [hL]; exact List.mem_cons_of_mem _ hy), h.C, hx, h.t0, up.t, ?_, h.cs⟩, put_rest (s' := { s with L := L }) ?_⟩
        · have := h.ls
          rw [hL] at this
          simp at this
          show L.length ≤ 1000
          omega
        · rw [ev_if_e (ev_large s _), hL]
          exact ev_pop0 s hL _
    · rw [decide_eq_false hr] at c0
      rw [ev_if0 c0]
      exact ⟨s, up, rfl⟩
  obtain ⟨s1, h1, e1⟩ := A
  have r0 := h1.r
  refine ⟨s1.r % n, Int.emod_nonneg _ (by omega), Int.emod_lt_of_pos _ hn, { s1 with r := s1.r / n }, ⟨h1.L, h1.C, Int.ediv_nonneg r0 (by omega), h1.t0, h1.t, h1.ls, h1.cs⟩, ?_⟩
  have body : b__law_take [some s.d, some (.int n), none] = some (.rt (.int (s1.r % n)) [some ({ s1 with r := s1.r / n } : Dr).d, some (.int n), none]) :=
    (ev_seq e1).trans ((ev_seq (ev_set (i := 2) (ev_bin (g := dMod) (ev_call1 (g := dInt2) (path_rest s1 _) rfl) (ev_int rfl) (dMod_p hn)) (by simp))).trans ((ev_seq (put_rest (ev_bin (g := dFdiv) (path_rest s1 _) (ev_int rfl) (dFdiv_p hn hn2)))).trans (ev_ret rfl)))
  show (if ([s.d, .int n] : List D).length = 2 then match b__law_take [some s.d, some (.int n), none] with | some (.rt r δ) => (match backs P__law_take 0 [s.d, .int n] δ with | some bs => some (r, bs) | none => none) | some (.nx δ) => (match backs P__law_take 0 [s.d, .int n] δ with | some bs => some (D.non, bs) | none => none) | _ => none else none) = _
  rw [body]
  rfl
theorem pick_ok {s : Dr} {b : Nat} {o : Bool} {ds : List D} (h : s.Ok b) (hb : b < 2 ^ 40) (hn : ds ≠ []) (hn2 : ds.length ≤ 1000) : ∃ (j : Nat) (d : D), ds[j]? = some d ∧ ∃ s' : Dr, s'.Ok (b + 1) ∧ m__law_pick [s.d, .lst o ds] = some (fz d, [s'.d, .lst false (fzs ds)]) := by
  have hp : 0 < ds.length := List.length_pos_iff.mpr hn
  obtain ⟨v, v0, v1, s', h', e⟩ := take_ok (n := (ds.length : Int)) h hb (by omega) (by omega)
  have hv : v.toNat < ds.length := by omega
  obtain ⟨d, hd⟩ : ∃ d, ds[v.toNat]? = some d := ⟨ds[v.toNat], by simp [hv]⟩
  refine ⟨v.toNat, d, hd, s', h', ?_⟩
  have body : b__law_pick [some s.d, some (.lst o ds)] = some (.rt (fz d) [some s'.d, some (.lst false (fzs ds))]) := by
    refine ev_ret (ev_bin (g := dIx) (ev_varf (i := 1) (d := .lst o ds) rfl) (ev_callv0e (d := s.d) (d1 := s.d) (ev_call1 (g := dLen) (ev_var (i := 1) (d := .lst false (fzs ds)) rfl (isFz_fz (.lst o ds))) (d := .int ds.length) ?_) rfl e) ?_)
    · show some (D.int (fzs ds).length) = _
      rw [fzs_length]
    · show (atI (fzs ds) v).map fz = _
      rw [atI_nat v0 (fzs_get hd)]
      exact congrArg some (fz_fz d)
  show (if ([s.d, .lst o ds] : List D).length = 2 then match b__law_pick [some s.d, some (.lst o ds)] with | some (.rt r δ) => (match backs P__law_pick 0 [s.d, .lst o ds] δ with | some bs => some (r, bs) | none => none) | some (.nx δ) => (match backs P__law_pick 0 [s.d, .lst o ds] δ with | some bs => some (D.non, bs) | none => none) | _ => none else none) = _
  rw [body]
  rfl
end K01
set_option Elab.async false
set_option linter.all false
set_option maxRecDepth 100000
set_option maxHeartbeats 0
namespace K01
open PySem PySem.Spec PyProof.Rows L2 DL
theorem any_scr {nums : List Int} {r : DL.Env} : iAny (mVar 0) (some (.scr (nums.map D.int)) :: r) = some (nums.map D.int, some (.scr (nums.map D.int)) :: r) := by
  have hv : mVar 0 (some (.scr (nums.map D.int)) :: r) = some (.scr (nums.map D.int), some (.scr (nums.map D.int)) :: r) := ev_var rfl (isFzs_ints nums)
  have e : DL.iLst (mVar 0) (some (.scr (nums.map D.int)) :: r) = some (nums.map D.int, some (.scr (nums.map D.int)) :: r) := by
    unfold DL.iLst
    rw [hv]
    simp only [itemsD, fzs_ints]
  unfold iAny
  rw [e]
theorem abs_ev {i : Int} {a b : Option D} : (mCallB dAbs (mCons (mVar 2) mNil)) [a, b, some (.int i)] = some (.int (if i < 0 then -i else i), [a, b, some (.int i)]) := ev_call1 (g := dAbs) (ev_int rfl) rfl
theorem ten18 (δ : DL.Env) : (mBin dPow (mC (.int 10)) (mC (.int 18))) δ = some (.int 1000000000000000000, δ) := by kernel_rfl
theorem begun_ok {nums : List Int} (hn : nums.length ≤ 63) : ∃ s : Dr, s.Ok 0 ∧ m__law_begun [.scr (nums.map D.int)] = some (s.d, [.scr (nums.map D.int)]) := by
  have hz : (nums.map D.int).length ≤ sizeLine := by rw [List.length_map]; exact Nat.le_trans hn (by decide)
  obtain ⟨δ1, acc1, el1, ⟨rs, hrs, hrl⟩, L, hL, rfl, hLl, rfl⟩ := loopC_ind (own := [2]) (t := tName 2) (c := toT (mBin dGe (mCallB dAbs (mCons (mVar 2) mNil)) (mBin dPow (mC (.int 10)) (mC (.int 18))))) (m := mBin dSub (mCallB dAbs (mCons (mVar 2) mNil)) (mBin dPow (mC (.int 10)) (mC (.int 18))))
    (J := fun r δ acc => (∃ rs : List Int, r = rs.map D.int ∧ rs.length ≤ 63) ∧ ∃ L : List Int, (∀ x ∈ L, 0 ≤ x) ∧ acc = L.map D.int ∧ L.length + r.length ≤ 63 ∧ δ = [some (.scr (nums.map D.int)), none, none])
    (fun d r δ acc hJ => by
      obtain ⟨⟨rs, hrs, hrl⟩, L, hL, rfl, hLl, rfl⟩ := hJ
      match rs, hrs with
      | i :: rs, hrs =>
        cases hrs
        simp only [List.length_cons] at hrl hLl
        have c := ev_toT (ev_bin (g := dGe) (abs_ev (i := i) (a := some (.scr (nums.map D.int))) (b := none)) (ten18 _) rfl)
        by_cases hc : (1000000000000000000 : Int) ≤ (if i < 0 then -i else i)
        · rw [decide_eq_true hc] at c
          refine ⟨_, _, rfl, .inr ⟨c, _, _, ev_bin (g := dSub) abs_ev (ten18 _) rfl, ⟨rs, rfl, by omega⟩, L ++ [(if i < 0 then -i else i) - 1000000000000000000], fun x hx => ?_, by simp, by simp at hLl ⊢; omega, rfl⟩⟩
          (rcases List.mem_append.mp hx with hx | hx)
          · exact hL x hx
          · rw [List.mem_singleton.mp hx]; omega
        · rw [decide_eq_false hc] at c
          exact ⟨_, _, rfl, .inl ⟨c, ⟨rs, rfl, by omega⟩, L, hL, rfl, by omega, rfl⟩⟩) (nums.map D.int) [some (.scr (nums.map D.int)), none, none] [] ⟨⟨nums, rfl, hn⟩, [], by simp, rfl, by simpa using hn, rfl⟩
  obtain ⟨δ2, acc2, el2, _, C, hC, rfl, hCl, rfl⟩ := loopC_ind (own := [2]) (t := tName 2) (c := tTrue) (m := mCallB dAbs (mCons (mVar 2) mNil))
    (J := fun r δ acc => (∃ rs : List Int, r = rs.map D.int ∧ rs.length ≤ 63) ∧ ∃ L : List Int, (∀ x ∈ L, 0 ≤ x) ∧ acc = L.map D.int ∧ L.length + r.length ≤ 63 ∧ δ = [some (.scr (nums.map D.int)), none, none])
    (fun d r δ acc hJ => by
      obtain ⟨⟨rs, hrs, hrl⟩, L, hL, rfl, hLl, rfl⟩ := hJ
      match rs, hrs with
      | i :: rs, hrs =>
        cases hrs
        simp only [List.length_cons] at hrl hLl
        refine ⟨_, _, rfl, .inr ⟨rfl, _, _, abs_ev, ⟨rs, rfl, by omega⟩, L ++ [if i < 0 then -i else i], fun x hx => ?_, by simp, by simp at hLl ⊢; omega, rfl⟩⟩
        (rcases List.mem_append.mp hx with hx | hx)
        · exact hL x hx
        · rw [List.mem_singleton.mp hx]; split <;> omega) (nums.map D.int) [some (.scr (nums.map D.int)), none, none] [] ⟨⟨nums, rfl, hn⟩, [], by simp, rfl, by simpa using hn, rfl⟩
  have lc1 := ev_lc (ev_altI (b := keysAt 0 pVar) (any_scr (nums := nums) (r := [none, none]))) hz el1
  have lc2 := ev_lc (ev_altI (b := keysAt 0 pVar) (any_scr (nums := nums) (r := [none, none]))) hz el2
  refine ⟨⟨L, true, C, 0, 0⟩, ⟨hL, hC, Int.le_refl 0, Int.le_refl 0, Int.le_refl 0, by simp at hLl; show L.length ≤ 1000; omega, by simp at hCl; show C.length ≤ 1000; omega⟩, ?_⟩
  refine fin_rt (np := 1) (N := 3) (δ := [none, none]) rfl (by decide) ?_
  refine (ev_seq (ev_set (i := 1) lc1 (by simp))).trans (ev_ret ?_)
  have lc2' : (mLc (iAlt (iAny (mVar 0)) (keysAt 0 pVar)) [2] (tName 2) tTrue (mCallB dAbs (mCons (mVar 2) mNil))) [some (.scr (nums.map D.int)), none, none] = some (.lst true (C.map D.int), [some (.scr (nums.map D.int)), none, none]) := lc2
  have pr : mPairs [((mC (.str "large")), (mMv 1)), ((mC (.str "cells")), (mLc (iAlt (iAny (mVar 0)) (keysAt 0 pVar)) [2] (tName 2) tTrue (mCallB dAbs (mCons (mVar 2) mNil)))), ((mC (.str "rest")), (mC (.int 0))), ((mC (.str "turn")), (mC (.int 0)))] [some (.scr (nums.map D.int)), some (.lst true (L.map D.int)), none] = some ([(.inr "large", .lst true (L.map D.int)), (.inr "cells", .lst true (C.map D.int)), (.inr "rest", .int 0), (.inr "turn", .int 0)], [some (.scr (nums.map D.int)), none, none]) := by
    have m1 : mMv 1 [some (.scr (nums.map D.int)), some (.lst true (L.map D.int)), none] = some (.lst true (L.map D.int), [some (.scr (nums.map D.int)), none, none]) := rfl
    simp only [mPairs, mC, keyD, m1, lc2']
  show mDisp _ [some (.scr (nums.map D.int)), some (.lst true (L.map D.int)), none] = _
  unfold mDisp
  rw [pr]
  exact if_pos (show Dr.ks.Nodup ∧ 4 ≤ 15 from ⟨by decide +kernel, by decide⟩)
end K01
set_option Elab.async false
set_option linter.all false
set_option maxRecDepth 100000
set_option maxHeartbeats 0
namespace K01
open PySem PySem.Spec PyProof.Rows L2 DL
local macro_rules | `(tactic| walk_at "ev S") => `(tactic| first
  | (with_reducible apply au_seq) | (with_reducible apply au_nx) | (with_reducible exact au_rt) | (with_reducible apply au_set) | (with_reducible apply au_sif) | (with_reducible exact au_snil) | (with_reducible apply au_expr) | (with_reducible apply au_ret) | (with_reducible apply au_par) | (with_reducible apply au_asg) | (with_reducible apply au_put) | (with_reducible apply au_putF) | (with_reducible apply au_for) | (with_reducible exact au_retN) | (with_reducible exact au_sbk) | (with_reducible exact au_sct) | (with_reducible exact au_bk) | (with_reducible exact au_ct) | walk_at "ev pick")
local macro_rules | `(tactic| walk_at "ev pick") => `(tactic| first
  | (with_reducible apply au_pt) | (with_reducible apply au_pf) | (with_reducible apply au_pht; focus assumption) | (with_reducible apply au_phf; focus assumption) | (with_reducible apply au_pht; focus (exact rfl)) | (with_reducible apply au_phf; focus (exact rfl)) | (with_reducible apply au_pht; focus (simp [*]; done)) | (with_reducible apply au_phf; focus (simp [*]; done)))
local macro_rules | `(tactic| walk_at "ev E") => `(tactic| first
  | (with_reducible apply au_var) | (with_reducible exact au_c) | (with_reducible apply au_bin) | (with_reducible apply au_callB) | (with_reducible apply au_call) | (with_reducible apply au_alt) | (with_reducible apply au_path) | (with_reducible apply au_tup) | (with_reducible apply au_lst) | (with_reducible apply au_fz) | (with_reducible apply au_mv) | (with_reducible apply au_if) | (with_reducible apply au_mand) | (with_reducible apply au_mor) | (with_reducible apply au_mnot) | (with_reducible apply au_purP) | (with_reducible apply au_pur) | (with_reducible apply au_meth) | (with_reducible apply au_methV) | (with_reducible apply au_methW) | (with_reducible apply au_methP) | (with_reducible apply au_methOv) | (with_reducible apply au_methOe) | (with_reducible apply au_make) | (with_reducible apply au_sl) | (with_reducible apply au_un) | (with_reducible apply au_neg) | (with_reducible apply au_tupL) | (with_reducible apply au_listZip) | walk_at "ev pick" | (with_reducible apply au_pmand) | (with_reducible apply au_pmor) | (with_reducible apply au_pval) | exact rfl)
local macro_rules | `(tactic| walk_at "ev T") => `(tactic| first
  | (with_reducible apply au_toT) | (with_reducible apply au_tru) | (with_reducible apply au_not) | (with_reducible apply au_and) | (with_reducible apply au_or) | (with_reducible exact au_ttrue) | (with_reducible apply au_purT) | (with_reducible exact au_xx) | walk_at "ev pick" | (with_reducible apply au_pand) | (with_reducible apply au_por))
local macro_rules | `(tactic| walk_at "ev L") => `(tactic| first
  | (with_reducible apply ev_cons) | (with_reducible exact au_nil) | (with_reducible apply au_zip) | (with_reducible apply au_anyL) | (with_reducible apply au_enum) | (with_reducible apply au_ialt))
local macro_rules | `(tactic| walk_at "ev V") => `(tactic| first
  | (with_reducible exact au_s0) | (with_reducible apply au_ss) | (with_reducible apply au_e1) | (with_reducible apply au_en) | (with_reducible exact au_e0) | (with_reducible apply au_kt) | (with_reducible apply au_kf) | (with_reducible exact au_k0) | (with_reducible exact au_kr) | (with_reducible apply au_kn) | (with_reducible apply au_kt0) | (with_reducible exact au_rs0) | (with_reducible apply au_rsO) | (with_reducible apply au_rsN) | exact rfl)
local macro_rules | `(tactic| walk_at "ev Z") => `(tactic| first
  | (with_reducible exact au_fint) | (with_reducible exact au_fstr) | (with_reducible exact au_fbl) | (with_reducible exact au_fnon) | (with_reducible exact au_fty) | (with_reducible exact au_fglo) | (with_reducible apply au_ftup) | (with_reducible apply au_flst) | (with_reducible apply au_fdct) | (with_reducible apply au_fobj) | (with_reducible refine fz_isFz _ (by assumption)) | (with_reducible apply fz_isFz) | exact rfl)
local macro_rules | `(tactic| walk_at "ev D") => `(tactic| first
  | (with_reducible exact au_f0) | (with_reducible apply au_fs) | (with_reducible exact au_fstrs) | (with_reducible exact au_fst0) | (with_reducible apply au_fsts) | (with_reducible exact au_a0) | (with_reducible apply au_as) | exact rfl)
local macro_rules | `(tactic| walk_at "ev") => `(tactic| first
  | (with_reducible apply gE; walk_at "ev E")
  | (with_reducible apply gV; walk_at "ev V")
  | (with_reducible apply gL; walk_at "ev L")
  | (with_reducible apply gT; walk_at "ev T")
  | (with_reducible apply gS; walk_at "ev S")
  | (with_reducible apply gZ; walk_at "ev Z")
  | (with_reducible apply gD; walk_at "ev D")
  | (with_reducible apply gK; first | (with_reducible exact au_kc) | (with_reducible apply au_kpur) | exact rfl)
  | (with_reducible apply gP; first | (with_reducible exact au_pvar) | (with_reducible apply au_psub) | (with_reducible apply au_pfld))
  | (with_reducible apply gQ; first | (with_reducible exact au_a0) | (with_reducible apply au_as))
  | (with_reducible apply gA; first | (with_reducible exact au_args0) | (with_reducible apply au_argsE) | (with_reducible apply au_argsV))
  | (with_reducible apply gN; first | (with_reducible exact au_lend0) | (with_reducible apply au_lendE) | (refine' au_lendO rfl rfl ?_ ?_) | (refine' au_lendF rfl ?_ ?_))
  | (with_reducible apply gM; first | (with_reducible apply perm2) | (with_reducible apply perm3) | (with_reducible apply au_perm))
  | (with_reducible apply gW; first | (with_reducible apply au_append) | (with_reducible apply au_w0) | (with_reducible apply au_wt) | exact rfl)
  | (with_reducible apply gG; first | (with_reducible apply au_tname) | (with_reducible apply au_ttup) | (with_reducible exact au_tsnil) | (with_reducible apply au_tscons) | (with_reducible exact au_sets0) | (with_reducible apply au_setss) | exact rfl)
  | (with_reducible apply gO; first | (with_reducible exact au_onone) | (with_reducible apply au_osome))
  | (with_reducible apply gR; first | (with_reducible exact au_pairs0) | (with_reducible apply au_pairss))
  | (with_reducible apply gC; first | (with_reducible exact au_ks0) | (with_reducible apply au_kss) | exact rfl)
  | exact rfl | (apply gProp; assumption) | (intro _) | (with_reducible apply Exists.intro) | (with_reducible apply And.intro))
local macro_rules | `(tactic| exists $ts,*) => `(tactic| repeat' (first $[| (with_reducible refine' $ts)]* | walk_at "ev"))
def things : List D := [.non, .bl true, .int 0, .int (-3), .int 1000000000000000, .str "", .str "at", .tup [], .tup [.int 1, .str "a"], .lst false [.str "x"], .dct false [.inr "k"] [.non], .tup [.str "tell", .str "a", .int 0]]
theorem things_fz : ∀ x ∈ things, isFz x = true := isFzs_iff.mp (show isFzs things = true by kernel_rfl)
theorem value_ok {s : Dr} {b : Nat} (h : s.Ok b) (hb : b < 2 ^ 40) : ∃ x ∈ things, ∃ s' : Dr, s'.Ok (b + 1) ∧ m__law_value [s.d] = some (x, [s'.d]) := by
  obtain ⟨j, d, hj, s', h', e⟩ := pick_ok (o := false) (ds := things) h hb (by unfold things; exact List.cons_ne_nil _ _) (by decide +kernel)
  rw [fz_isFz d (things_fz d (List.mem_of_getElem? hj))] at e
  refine ⟨d, List.mem_of_getElem? hj, s', h', ?_⟩
  have e0 : (sSet 1 (mLst (mCons (mC .non) (mCons (mC (.bl true)) (mCons (mC (.int 0)) (mCons (mNeg (mC (.int 3))) (mCons (mBin dPow (mC (.int 10)) (mC (.int 15))) (mCons (mC (.str "")) (mCons (mC (.str "at")) (mCons (mTup mNil) (mCons (mTup (mCons (mC (.int 1)) (mCons (mC (.str "a")) mNil))) (mCons (mLst (mCons (mC (.str "x")) mNil)) (mCons (mDisp [((mC (.str "k")), (mC .non))]) (mCons (mTup (mCons (mC (.str "tell")) (mCons (mC (.str "a")) (mCons (mC (.int 0)) mNil)))) mNil)))))))))))))) [some s.d, none] = some (.nx [some s.d, some (.lst true [.non, .bl true, .int 0, .int (-3), .int 1000000000000000, .str "", .str "at", .tup [], .tup [.int 1, .str "a"], .lst true [.str "x"], .dct true [.inr "k"] [.non], .tup [.str "tell", .str "a", .int 0]])]) := by kernel_rfl
  have f0 : fz (.lst true [.non, .bl true, .int 0, .int (-3), .int 1000000000000000, .str "", .str "at", .tup [], .tup [.int 1, .str "a"], .lst true [.str "x"], .dct true [.inr "k"] [.non], .tup [.str "tell", .str "a", .int 0]]) = .lst false things := by kernel_rfl
  unfold m__law_value b__law_value
  apply au_fin (k := 1) rfl rfl
  exists e0, f0, e
def CL : List Str := [("BadHall" : Str), ("BadRules" : Str), ("BadScheme" : Str), ("NoKeeper" : Str), ("NoRule" : Str), ("NoCell" : Str), ("BadWeaving" : Str), ("TooMany" : Str), ("BadWrongs" : Str), ("BadText" : Str), ("BadCourse" : Str), ("BadTiming" : Str), ("BadJournal" : Str), ("BadScene" : Str), ("BadPattern" : Str), ("BadWrong" : Str), ("BadName" : Str), ("BadChecks" : Str), ("BadBounds" : Str), ("BadStand" : Str), ("BadSlots" : Str), ("BadFilling" : Str), ("BadPrices" : Str), ("NotSafe" : Str), ("BadNumber" : Str), ("BadFrame" : Str), ("BadWays" : Str), ("BadWord" : Str), ("BadTimed" : Str), ("BadTold" : Str), ("BadWay" : Str), ("BadDeed" : Str), ("NothingDone" : Str)]
def FL : List Str := [("part" : Str), ("at" : Str), ("part" : Str), ("name" : Str), ("index" : Str), ("cell" : Str), ("at" : Str), ("most" : Str), ("at" : Str), ("line" : Str), ("at" : Str), ("part" : Str), ("at" : Str)]
def cl (j : Nat) : Str := (CL[j]?).getD ""
def item (x : D) (i : Nat) : D := if i < 26 then .exc (cl (i / 2)) [(FL[i / 2]?).getD ""] [x] else .exc (cl (i - 13)) [] []
theorem CL_look : ∀ c ∈ CL, es.lookup c = some [("FarError" : Str)] ∧ c ≠ "FarError" := by decide +kernel
theorem CL_nodup : CL.Nodup := by decide +kernel
theorem far_look : (es.lookup ("FarError" : Str)).isSome = true := by decide +kernel
theorem isF {c x : Str} (hc : c ∈ CL) (hx : x ∈ CL) (ns : List Str) (ds : List D) : dIsF es ct [.exc c ns ds, .glo x] = some (D.bl (decide (c = x))) := by
  obtain ⟨h1, _⟩ := CL_look c hc
  obtain ⟨h2, h3⟩ := CL_look x hx
  have i1 : inT es c = true := by unfold inT; rw [h1]; rfl
  have i2 : inT es x = true := by unfold inT; rw [h2]; rfl
  have s : subT es c x = decide (c = x) := by
    unfold subT
    rw [h1]
    simp [h3]
  show (if (inT es c && inT es x) = true then some (D.bl (subT es c x)) else none) = _
  rw [i1, i2, s]
  rfl
theorem isFar {c : Str} (hc : c ∈ CL) (ns : List Str) (ds : List D) : dIsF es ct [.exc c ns ds, .glo "FarError"] = some (D.bl true) := by
  obtain ⟨h1, h2⟩ := CL_look c hc
  have i1 : inT es c = true := by unfold inT; rw [h1]; rfl
  have s : subT es c "FarError" = true := by
    unfold subT
    rw [h1]
    simp
  show (if (inT es c && inT es "FarError") = true then some (D.bl (subT es c "FarError")) else none) = _
  rw [i1, show inT es "FarError" = true from far_look, s]
  rfl
theorem isF_ev {c C : Str} {ns : List Str} {ds : List D} {r : DL.Env} (h : c ∈ CL) (he : isFzs ds = true) (k : Nat) (hk : CL[k]? = some C) :
    (mCallB (dIsF es ct) (mCons (mVar 0) (mCons (mC (.glo C)) mNil))) (some (.exc c ns ds) :: r) = some (.bl (decide (c = C)), some (.exc c ns ds) :: r) :=
  ev_callB (ev_cons (ev_var (i := 0) rfl (show isFz (.exc c ns ds) = true from he)) (ev_cons (a := mC (.glo C)) rfl rfl)) (isF h (List.mem_of_getElem? hk) ns ds)
theorem fzs_bls (bs : List Bool) : fzs (bs.map D.bl) = bs.map D.bl := by
  induction bs with
  | nil => rfl
  | cons b r ih => simp only [List.map_cons, fzs, fz, ih]
theorem add_bls {c : Str} {ns : List Str} {ds : List D} {bs cs : List Bool} {r : ML} (hb : bs.length + cs.length ≤ 100) (h : r [some (.exc c ns ds), some (.lst false (bs.map D.bl))] = some (cs.map D.bl, [some (.exc c ns ds), some (.lst false (bs.map D.bl))])) :
    sSet 1 (mBin dAdd (mVar 1) (mLst r)) [some (.exc c ns ds), some (.lst true (bs.map D.bl))] = some (.nx [some (.exc c ns ds), some (.lst true ((bs ++ cs).map D.bl))]) := by
  have v : mVar 1 [some (.exc c ns ds), some (.lst true (bs.map D.bl))] = some (.lst false (bs.map D.bl), [some (.exc c ns ds), some (.lst false (bs.map D.bl))]) := by
    show some (fz (.lst true (bs.map D.bl)), [some (.exc c ns ds), some (fz (.lst true (bs.map D.bl)))]) = _
    rw [show fz (.lst true (bs.map D.bl)) = .lst false (bs.map D.bl) from congrArg (D.lst false) (fzs_bls bs)]
  have l : mLst r [some (.exc c ns ds), some (.lst false (bs.map D.bl))] = some (.lst true (cs.map D.bl), [some (.exc c ns ds), some (.lst false (bs.map D.bl))]) := au_lst h (Nat.ble_eq_true_of_le (by rw [List.length_map]; omega))
  have line : (100 : Nat) ≤ sizeLine := by decide +kernel
  refine ev_set (i := 1) (ev_bin (g := dAdd) v l (d := .lst true ((bs ++ cs).map D.bl)) ?_) (show 1 < 2 by decide)
  show (if (bs.map D.bl).length + (cs.map D.bl).length ≤ sizeLine then some (D.lst true (bs.map D.bl ++ cs.map D.bl)) else none) = _
  rw [← List.map_append]
  exact if_pos (by simp only [List.length_map]; omega)
theorem row3 {c : Str} {ns : List Str} {ds : List D} {r : DL.Env} (h : c ∈ CL) (he : isFzs ds = true) {X Y Z : Str} (a b d : Nat) (ha : CL[a]? = some X) (hb : CL[b]? = some Y) (hd : CL[d]? = some Z) :
    (mCons (mCallB (dIsF es ct) (mCons (mVar 0) (mCons (mC (.glo X)) mNil))) (mCons (mCallB (dIsF es ct) (mCons (mVar 0) (mCons (mC (.glo Y)) mNil))) (mCons (mCallB (dIsF es ct) (mCons (mVar 0) (mCons (mC (.glo Z)) mNil))) mNil))) (some (.exc c ns ds) :: r) =
      some ([decide (c = X), decide (c = Y), decide (c = Z)].map D.bl, some (.exc c ns ds) :: r) := ev_cons (isF_ev h he a ha) (ev_cons (isF_ev h he b hb) (ev_cons (isF_ev h he d hd) rfl))
theorem row2 {c : Str} {ns : List Str} {ds : List D} {r : DL.Env} (h : c ∈ CL) (he : isFzs ds = true) {X Y : Str} (a b : Nat) (ha : CL[a]? = some X) (hb : CL[b]? = some Y) :
    (mCons (mCallB (dIsF es ct) (mCons (mVar 0) (mCons (mC (.glo X)) mNil))) (mCons (mCallB (dIsF es ct) (mCons (mVar 0) (mCons (mC (.glo Y)) mNil))) mNil)) (some (.exc c ns ds) :: r) =
      some ([decide (c = X), decide (c = Y)].map D.bl, some (.exc c ns ds) :: r) := ev_cons (isF_ev h he a ha) (ev_cons (isF_ev h he b hb) rfl)
theorem row1 {c : Str} {ns : List Str} {ds : List D} {r : DL.Env} (h : c ∈ CL) (he : isFzs ds = true) {X : Str} (a : Nat) (ha : CL[a]? = some X) :
    (mCons (mCallB (dIsF es ct) (mCons (mVar 0) (mCons (mC (.glo X)) mNil))) mNil) (some (.exc c ns ds) :: r) = some ([decide (c = X)].map D.bl, some (.exc c ns ds) :: r) := ev_cons (isF_ev h he a ha) rfl
theorem marks_ok {c : Str} {ns : List Str} {ds : List D} (h : c ∈ CL) (he : isFzs ds = true) : m__law_marks [.exc c ns ds] = some (.lst true (CL.map fun x => D.bl (decide (c = x))), [.exc c ns ds]) := by
  have hf : fz (.exc c ns ds) = .exc c ns ds := fz_isFz _ (show isFz (.exc c ns ds) = true from he)
  have s0 : sSet 1 (mLst mNil) [some (.exc c ns ds), none] = some (.nx [some (.exc c ns ds), some (.lst true (([] : List Bool).map D.bl))]) := rfl
  unfold m__law_marks b__law_marks
  have s1 := add_bls (c := c) (ns := ns) (ds := ds) (bs := []) (show (_ : Nat) ≤ 100 by simp) (row3 h he 0 1 2 rfl rfl rfl)
  have s2 := add_bls (c := c) (ns := ns) (ds := ds) (bs := [decide (c = "BadHall"), decide (c = "BadRules"), decide (c = "BadScheme")]) (show (_ : Nat) ≤ 100 by simp) (row3 h he 3 4 5 rfl rfl rfl)
  have s3 := add_bls (c := c) (ns := ns) (ds := ds) (bs := [decide (c = "BadHall"), decide (c = "BadRules"), decide (c = "BadScheme"), decide (c = "NoKeeper"), decide (c = "NoRule"), decide (c = "NoCell")]) (show (_ : Nat) ≤ 100 by simp) (row3 h he 6 7 8 rfl rfl rfl)
  have s4 := add_bls (c := c) (ns := ns) (ds := ds) (bs := [decide (c = "BadHall"), decide (c = "BadRules"), decide (c = "BadScheme"), decide (c = "NoKeeper"), decide (c = "NoRule"), decide (c = "NoCell"), decide (c = "BadWeaving"), decide (c = "TooMany"), decide (c = "BadWrongs")]) (show (_ : Nat) ≤ 100 by simp) (row3 h he 9 10 11 rfl rfl rfl)
  have s5 := add_bls (c := c) (ns := ns) (ds := ds) (bs := [decide (c = "BadHall"), decide (c = "BadRules"), decide (c = "BadScheme"), decide (c = "NoKeeper"), decide (c = "NoRule"), decide (c = "NoCell"), decide (c = "BadWeaving"), decide (c = "TooMany"), decide (c = "BadWrongs"), decide (c = "BadText"), decide (c = "BadCourse"), decide (c = "BadTiming")]) (show (_ : Nat) ≤ 100 by simp) (row1 h he 12 rfl)
  have s6 := add_bls (c := c) (ns := ns) (ds := ds) (bs := [decide (c = "BadHall"), decide (c = "BadRules"), decide (c = "BadScheme"), decide (c = "NoKeeper"), decide (c = "NoRule"), decide (c = "NoCell"), decide (c = "BadWeaving"), decide (c = "TooMany"), decide (c = "BadWrongs"), decide (c = "BadText"), decide (c = "BadCourse"), decide (c = "BadTiming"), decide (c = "BadJournal")]) (show (_ : Nat) ≤ 100 by simp) (row3 h he 13 14 15 rfl rfl rfl)
  have s7 := add_bls (c := c) (ns := ns) (ds := ds) (bs := [decide (c = "BadHall"), decide (c = "BadRules"), decide (c = "BadScheme"), decide (c = "NoKeeper"), decide (c = "NoRule"), decide (c = "NoCell"), decide (c = "BadWeaving"), decide (c = "TooMany"), decide (c = "BadWrongs"), decide (c = "BadText"), decide (c = "BadCourse"), decide (c = "BadTiming"), decide (c = "BadJournal"), decide (c = "BadScene"), decide (c = "BadPattern"), decide (c = "BadWrong")]) (show (_ : Nat) ≤ 100 by simp) (row3 h he 16 17 18 rfl rfl rfl)
  have s8 := add_bls (c := c) (ns := ns) (ds := ds) (bs := [decide (c = "BadHall"), decide (c = "BadRules"), decide (c = "BadScheme"), decide (c = "NoKeeper"), decide (c = "NoRule"), decide (c = "NoCell"), decide (c = "BadWeaving"), decide (c = "TooMany"), decide (c = "BadWrongs"), decide (c = "BadText"), decide (c = "BadCourse"), decide (c = "BadTiming"), decide (c = "BadJournal"), decide (c = "BadScene"), decide (c = "BadPattern"), decide (c = "BadWrong"), decide (c = "BadName"), decide (c = "BadChecks"), decide (c = "BadBounds")]) (show (_ : Nat) ≤ 100 by simp) (row3 h he 19 20 21 rfl rfl rfl)
  have s9 := add_bls (c := c) (ns := ns) (ds := ds) (bs := [decide (c = "BadHall"), decide (c = "BadRules"), decide (c = "BadScheme"), decide (c = "NoKeeper"), decide (c = "NoRule"), decide (c = "NoCell"), decide (c = "BadWeaving"), decide (c = "TooMany"), decide (c = "BadWrongs"), decide (c = "BadText"), decide (c = "BadCourse"), decide (c = "BadTiming"), decide (c = "BadJournal"), decide (c = "BadScene"), decide (c = "BadPattern"), decide (c = "BadWrong"), decide (c = "BadName"), decide (c = "BadChecks"), decide (c = "BadBounds"), decide (c = "BadStand"), decide (c = "BadSlots"), decide (c = "BadFilling")]) (show (_ : Nat) ≤ 100 by simp) (row3 h he 22 23 24 rfl rfl rfl)
  have s10 := add_bls (c := c) (ns := ns) (ds := ds) (bs := [decide (c = "BadHall"), decide (c = "BadRules"), decide (c = "BadScheme"), decide (c = "NoKeeper"), decide (c = "NoRule"), decide (c = "NoCell"), decide (c = "BadWeaving"), decide (c = "TooMany"), decide (c = "BadWrongs"), decide (c = "BadText"), decide (c = "BadCourse"), decide (c = "BadTiming"), decide (c = "BadJournal"), decide (c = "BadScene"), decide (c = "BadPattern"), decide (c = "BadWrong"), decide (c = "BadName"), decide (c = "BadChecks"), decide (c = "BadBounds"), decide (c = "BadStand"), decide (c = "BadSlots"), decide (c = "BadFilling"), decide (c = "BadPrices"), decide (c = "NotSafe"), decide (c = "BadNumber")]) (show (_ : Nat) ≤ 100 by simp) (row3 h he 25 26 27 rfl rfl rfl)
  have s11 := add_bls (c := c) (ns := ns) (ds := ds) (bs := [decide (c = "BadHall"), decide (c = "BadRules"), decide (c = "BadScheme"), decide (c = "NoKeeper"), decide (c = "NoRule"), decide (c = "NoCell"), decide (c = "BadWeaving"), decide (c = "TooMany"), decide (c = "BadWrongs"), decide (c = "BadText"), decide (c = "BadCourse"), decide (c = "BadTiming"), decide (c = "BadJournal"), decide (c = "BadScene"), decide (c = "BadPattern"), decide (c = "BadWrong"), decide (c = "BadName"), decide (c = "BadChecks"), decide (c = "BadBounds"), decide (c = "BadStand"), decide (c = "BadSlots"), decide (c = "BadFilling"), decide (c = "BadPrices"), decide (c = "NotSafe"), decide (c = "BadNumber"), decide (c = "BadFrame"), decide (c = "BadWays"), decide (c = "BadWord")]) (show (_ : Nat) ≤ 100 by simp) (row3 h he 28 29 30 rfl rfl rfl)
  have s12 := add_bls (c := c) (ns := ns) (ds := ds) (bs := [decide (c = "BadHall"), decide (c = "BadRules"), decide (c = "BadScheme"), decide (c = "NoKeeper"), decide (c = "NoRule"), decide (c = "NoCell"), decide (c = "BadWeaving"), decide (c = "TooMany"), decide (c = "BadWrongs"), decide (c = "BadText"), decide (c = "BadCourse"), decide (c = "BadTiming"), decide (c = "BadJournal"), decide (c = "BadScene"), decide (c = "BadPattern"), decide (c = "BadWrong"), decide (c = "BadName"), decide (c = "BadChecks"), decide (c = "BadBounds"), decide (c = "BadStand"), decide (c = "BadSlots"), decide (c = "BadFilling"), decide (c = "BadPrices"), decide (c = "NotSafe"), decide (c = "BadNumber"), decide (c = "BadFrame"), decide (c = "BadWays"), decide (c = "BadWord"), decide (c = "BadTimed"), decide (c = "BadTold"), decide (c = "BadWay")]) (show (_ : Nat) ≤ 100 by simp) (row2 h he 31 32 rfl rfl)
  refine au_fin (np := 1) (k := 1) (δ0 := [some (.exc c ns ds), none]) (δ := [some (.exc c ns ds), none]) rfl rfl (by exists hf) ?_ ?_
  · refine (ev_seq s0).trans ?_
    refine (ev_seq s1).trans ?_
    refine (ev_seq s2).trans ?_
    refine (ev_seq s3).trans ?_
    refine (ev_seq s4).trans ?_
    refine (ev_seq s5).trans ?_
    refine (ev_seq s6).trans ?_
    refine (ev_seq s7).trans ?_
    refine (ev_seq s8).trans ?_
    refine (ev_seq s9).trans ?_
    refine (ev_seq s10).trans ?_
    refine (ev_seq s11).trans ?_
    refine (ev_seq s12).trans ?_
    exact ev_ret (ev_mv rfl)
  · exists hf
theorem cl_mem {j : Nat} (h : j < 33) : cl j ∈ CL := by
  unfold cl
  rw [List.getElem?_eq_getElem (show j < CL.length from h)]
  exact List.getElem_mem _
theorem cl_row {j : Nat} (h : j < 33) : (CL.map fun x => D.bl (decide (cl j = x))) = (List.range 33).map fun (k : Nat) => D.bl (decide ((k : Int) = (j : Int))) := by
  apply List.ext_getElem
  · rfl
  · intro k h1 h2
    have hk : k < 33 := by simpa using h2
    rw [List.getElem_map, List.getElem_map, List.getElem_range]
    unfold cl
    rw [List.getElem?_eq_getElem (show j < CL.length from h), Option.getD_some]
    congr 1
    refine decide_eq_decide.mpr ?_
    rw [List.getElem_inj CL_nodup]
    omega
theorem said_ok (w : Str) : m__law_said [.str w] = some (.lst true ((List.range' 13 20).map fun j => .exc (cl j) [] []), [.str w]) := by kernel_rfl
def kept (x : D) : List D := (List.range' 0 26).map fun i => .exc (cl (i / 2)) [(FL[i / 2]?).getD ""] [x]
theorem kept_ok : ∀ x ∈ things, m__law_kept [x] = some (.lst true (kept x), [x]) := by
  intro x hx
  simp only [things, List.mem_cons, List.not_mem_nil, or_false] at hx
  rcases hx with rfl | rfl | rfl | rfl | rfl | rfl | rfl | rfl | rfl | rfl | rfl | rfl
  all_goals kernel_rfl
theorem values_ok : ∀ x ∈ things, m__law_values [.lst false (kept x)] = some (.lst true (List.replicate 26 x), [.lst false (kept x)]) := by
  intro x hx
  simp only [things, List.mem_cons, List.not_mem_nil, or_false] at hx
  rcases hx with rfl | rfl | rfl | rfl | rfl | rfl | rfl | rfl | rfl | rfl | rfl | rfl
  all_goals kernel_rfl
theorem repr_ok : ∀ x ∈ things, ∃ w, reprD (.lst true (List.replicate 26 x)) = some w := by
  intro x hx
  have h : (things.all fun x => (reprD (.lst true (List.replicate 26 x))).isSome) = true := by decide +kernel
  exact Option.isSome_iff_exists.mp (List.all_eq_true.mp h x hx)
theorem fzs_kept {x : D} (h : isFz x = true) : fzs (kept x) = kept x := by
  refine fzs_isFzs _ (isFzs_iff.mpr fun d hd => ?_)
  obtain ⟨i, _, rfl⟩ := List.mem_map.mp hd
  show isFzs [x] = true
  simp [isFzs, h]
theorem items_eq (x : D) : enumF 0 (kept x ++ (List.range' 13 20).map fun j => .exc (cl j) [] []) = (List.range' 0 46).map fun (i : Nat) => .tup [.int (i : Int), item x i] := by kernel_rfl
theorem toPys_bls : ∀ bs : List Bool, toPys (bs.map D.bl) = some (bs.map PyData.bool)
  | [] => rfl
  | b :: r => by simp only [List.map_cons, toPys, toPy, toPys_bls r]
theorem eqv_bls : ∀ bs : List Bool, PyData.eqvAll (bs.map PyData.bool) (bs.map PyData.bool) = true
  | [] => rfl
  | b :: r => by simp [PyData.eqvAll, PyData.eqv, eqv_bls r]
theorem lay_bls : ∀ bs : List Bool, PyData.canLayAll0 (bs.map PyData.bool) = true ∧ PyData.depthAll (bs.map PyData.bool) = 0
  | [] => ⟨rfl, rfl⟩
  | b :: r => by
    obtain ⟨h1, h2⟩ := lay_bls r
    simp only [List.map_cons, PyData.canLayAll0, PyData.canLay0, h1, PyData.depthAll, PyData.depth, h2, Bool.and_self]
    exact ⟨trivial, rfl⟩
theorem ne_bls (o o' : Bool) (bs : List Bool) : dNe (.lst o (bs.map D.bl)) (.lst o' (bs.map D.bl)) = some (.bl false) := by
  obtain ⟨h1, h2⟩ := lay_bls bs
  have sh : SeqAt.shaped (.list (bs.map PyData.bool)) = true := by
    unfold SeqAt.shaped
    simp [PyData.canLay0, h1, PyData.depth, h2]
  have e : pyEq (.lst o (bs.map D.bl)) (.lst o' (bs.map D.bl)) = some true := by
    unfold pyEq
    simp only [toPy, toPys_bls, Option.map_some, sh, Bool.and_self, if_true, PyData.eqv, eqv_bls]
  show (pyEq _ _).map _ = _
  rw [e]
  rfl
end K01
set_option Elab.async false
set_option linter.all false
set_option maxRecDepth 100000
set_option maxHeartbeats 0
namespace K01
open PySem PySem.Spec PyProof.Rows L2 DL
local macro_rules | `(tactic| walk_at "ev S") => `(tactic| first
  | (with_reducible apply au_seq) | (with_reducible apply au_nx) | (with_reducible exact au_rt) | (with_reducible apply au_set) | (with_reducible apply au_sif) | (with_reducible exact au_snil) | (with_reducible apply au_expr) | (with_reducible apply au_ret) | (with_reducible apply au_par) | (with_reducible apply au_asg) | (with_reducible apply au_put) | (with_reducible apply au_putF) | (with_reducible apply au_for) | (with_reducible exact au_retN) | (with_reducible exact au_sbk) | (with_reducible exact au_sct) | (with_reducible exact au_bk) | (with_reducible exact au_ct) | walk_at "ev pick")
local macro_rules | `(tactic| walk_at "ev pick") => `(tactic| first
  | (with_reducible apply au_pt) | (with_reducible apply au_pf) | (with_reducible apply au_pht; focus assumption) | (with_reducible apply au_phf; focus assumption) | (with_reducible apply au_pht; focus (exact rfl)) | (with_reducible apply au_phf; focus (exact rfl)) | (with_reducible apply au_pht; focus (simp [*]; done)) | (with_reducible apply au_phf; focus (simp [*]; done)))
local macro_rules | `(tactic| walk_at "ev E") => `(tactic| first
  | (with_reducible apply au_var) | (with_reducible exact au_c) | (with_reducible apply au_bin) | (with_reducible apply au_callB) | (with_reducible apply au_call) | (with_reducible apply au_alt) | (with_reducible apply au_path) | (with_reducible apply au_tup) | (with_reducible apply au_lst) | (with_reducible apply au_fz) | (with_reducible apply au_mv) | (with_reducible apply au_if) | (with_reducible apply au_mand) | (with_reducible apply au_mor) | (with_reducible apply au_mnot) | (with_reducible apply au_purP) | (with_reducible apply au_pur) | (with_reducible apply au_meth) | (with_reducible apply au_methV) | (with_reducible apply au_methW) | (with_reducible apply au_methP) | (with_reducible apply au_methOv) | (with_reducible apply au_methOe) | (with_reducible apply au_make) | (with_reducible apply au_sl) | (with_reducible apply au_un) | (with_reducible apply au_neg) | (with_reducible apply au_tupL) | (with_reducible apply au_listZip) | walk_at "ev pick" | (with_reducible apply au_pmand) | (with_reducible apply au_pmor) | (with_reducible apply au_pval) | exact rfl)
local macro_rules | `(tactic| walk_at "ev T") => `(tactic| first
  | (with_reducible apply au_toT) | (with_reducible apply au_tru) | (with_reducible apply au_not) | (with_reducible apply au_and) | (with_reducible apply au_or) | (with_reducible exact au_ttrue) | (with_reducible apply au_purT) | (with_reducible exact au_xx) | walk_at "ev pick" | (with_reducible apply au_pand) | (with_reducible apply au_por))
local macro_rules | `(tactic| walk_at "ev L") => `(tactic| first
  | (with_reducible apply ev_cons) | (with_reducible exact au_nil) | (with_reducible apply au_zip) | (with_reducible apply au_anyL) | (with_reducible apply au_enum) | (with_reducible apply au_ialt))
local macro_rules | `(tactic| walk_at "ev V") => `(tactic| first
  | (with_reducible exact au_s0) | (with_reducible apply au_ss) | (with_reducible apply au_e1) | (with_reducible apply au_en) | (with_reducible exact au_e0) | (with_reducible apply au_kt) | (with_reducible apply au_kf) | (with_reducible exact au_k0) | (with_reducible exact au_kr) | (with_reducible apply au_kn) | (with_reducible apply au_kt0) | (with_reducible exact au_rs0) | (with_reducible apply au_rsO) | (with_reducible apply au_rsN) | exact rfl)
local macro_rules | `(tactic| walk_at "ev Z") => `(tactic| first
  | (with_reducible exact au_fint) | (with_reducible exact au_fstr) | (with_reducible exact au_fbl) | (with_reducible exact au_fnon) | (with_reducible exact au_fty) | (with_reducible exact au_fglo) | (with_reducible apply au_ftup) | (with_reducible apply au_flst) | (with_reducible apply au_fdct) | (with_reducible apply au_fobj) | (with_reducible refine fz_isFz _ (by assumption)) | (with_reducible apply fz_isFz) | exact rfl)
local macro_rules | `(tactic| walk_at "ev D") => `(tactic| first
  | (with_reducible exact au_f0) | (with_reducible apply au_fs) | (with_reducible exact au_fstrs) | (with_reducible exact au_fst0) | (with_reducible apply au_fsts) | (with_reducible exact au_a0) | (with_reducible apply au_as) | exact rfl)
local macro_rules | `(tactic| walk_at "ev") => `(tactic| first
  | (with_reducible apply gE; walk_at "ev E")
  | (with_reducible apply gV; walk_at "ev V")
  | (with_reducible apply gL; walk_at "ev L")
  | (with_reducible apply gT; walk_at "ev T")
  | (with_reducible apply gS; walk_at "ev S")
  | (with_reducible apply gZ; walk_at "ev Z")
  | (with_reducible apply gD; walk_at "ev D")
  | (with_reducible apply gK; first | (with_reducible exact au_kc) | (with_reducible apply au_kpur) | exact rfl)
  | (with_reducible apply gP; first | (with_reducible exact au_pvar) | (with_reducible apply au_psub) | (with_reducible apply au_pfld))
  | (with_reducible apply gQ; first | (with_reducible exact au_a0) | (with_reducible apply au_as))
  | (with_reducible apply gA; first | (with_reducible exact au_args0) | (with_reducible apply au_argsE) | (with_reducible apply au_argsV))
  | (with_reducible apply gN; first | (with_reducible exact au_lend0) | (with_reducible apply au_lendE) | (refine' au_lendO rfl rfl ?_ ?_) | (refine' au_lendF rfl ?_ ?_))
  | (with_reducible apply gM; first | (with_reducible apply perm2) | (with_reducible apply perm3) | (with_reducible apply au_perm))
  | (with_reducible apply gW; first | (with_reducible apply au_append) | (with_reducible apply au_w0) | (with_reducible apply au_wt) | exact rfl)
  | (with_reducible apply gG; first | (with_reducible apply au_tname) | (with_reducible apply au_ttup) | (with_reducible exact au_tsnil) | (with_reducible apply au_tscons) | (with_reducible exact au_sets0) | (with_reducible apply au_setss) | exact rfl)
  | (with_reducible apply gO; first | (with_reducible exact au_onone) | (with_reducible apply au_osome))
  | (with_reducible apply gR; first | (with_reducible exact au_pairs0) | (with_reducible apply au_pairss))
  | (with_reducible apply gC; first | (with_reducible exact au_ks0) | (with_reducible apply au_kss) | exact rfl)
  | exact rfl | (apply gProp; assumption) | (intro _) | (with_reducible apply Exists.intro) | (with_reducible apply And.intro))
local macro_rules | `(tactic| exists $ts,*) => `(tactic| repeat' (first $[| (with_reducible refine' $ts)]* | walk_at "ev"))
def body : MS := (sCons (sSet 9 (mIf (toT (mBin dLt (mVar 7) (mC (.int 26)))) (mBin dFdiv (mVar 7) (mC (.int 2))) (mBin dSub (mVar 7) (mC (.int 13)))))
  (sCons (sIf (tOr2 (tNot1 (mTru (mCallB (dIsF es ct) (mCons (mVar 8) (mCons (mC (.glo "FarError")) mNil))))) (tNot1 (mTru (mIsVE es (mVar 8)))))
  (sRet (mC (.bl false)))
  sNil)
  (sIf (toT (mBin dNe (mCall m__law_marks [.e (mVar 8)] []) (mLc (mRng1 (mCons (mC (.int 33)) mNil)) [10] (tName 10) tTrue (mBin dEq (mVar 10) (mVar 9)))))
  (sRet (mC (.bl false)))
  sNil)))
theorem ve_ok {j : Nat} (hj : j < 33) {ns : List Str} {ds : List D} (he : isFzs ds = true) {a0 a1 a2 a3 a4 a5 a6 a7 a9 a10 : Option D} :
    mIsVE es (mVar 8) [a0, a1, a2, a3, a4, a5, a6, a7, some (.exc (cl j) ns ds), a9, a10] = some (.bl true, [a0, a1, a2, a3, a4, a5, a6, a7, some (.exc (cl j) ns ds), a9, a10]) := by
  have v : mVar 8 [a0, a1, a2, a3, a4, a5, a6, a7, some (.exc (cl j) ns ds), a9, a10] = some (.exc (cl j) ns ds, [a0, a1, a2, a3, a4, a5, a6, a7, some (.exc (cl j) ns ds), a9, a10]) := ev_var rfl (show isFz (.exc (cl j) ns ds) = true from he)
  unfold mIsVE
  rw [v]
  have i1 : inT es (cl j) = true := by
    unfold inT
    rw [(CL_look _ (cl_mem hj)).1]
    rfl
  simp only [i1]
  rfl
theorem lc_ok (j : Nat) (a0 a1 a2 a3 a4 a5 a6 a7 a8 a10 : Option D) : (mLc (mRng1 (mCons (mC (.int 33)) mNil)) [10] (tName 10) tTrue (mBin dEq (mVar 10) (mVar 9))) [a0, a1, a2, a3, a4, a5, a6, a7, a8, some (.int (j : Int)), a10] =
    some (.lst true ((List.range 33).map fun (k : Nat) => D.bl (decide ((k : Int) = (j : Int)))), [a0, a1, a2, a3, a4, a5, a6, a7, a8, some (.int (j : Int)), none]) := by kernel_rfl
theorem ne_row {j : Nat} (hj : j < 33) : dNe (.lst true (CL.map fun x => D.bl (decide (cl j = x)))) (.lst true ((List.range 33).map fun (k : Nat) => D.bl (decide ((k : Int) = (j : Int))))) = some (.bl false) := by
  rw [← cl_row hj]
  have e : (CL.map fun x => D.bl (decide (cl j = x))) = (CL.map fun x => decide (cl j = x)).map D.bl := by rw [List.map_map]; rfl
  rw [e]
  exact ne_bls _ _ _
theorem body_ok {i j : Nat} (hj : j < 33) {ns : List Str} {ds : List D} (he : isFzs ds = true) {a0 a1 a2 a3 a4 a5 a6 a9 a10 : Option D}
    (h9 : (mIf (toT (mBin dLt (mVar 7) (mC (.int 26)))) (mBin dFdiv (mVar 7) (mC (.int 2))) (mBin dSub (mVar 7) (mC (.int 13)))) [a0, a1, a2, a3, a4, a5, a6, some (.int (i : Int)), some (.exc (cl j) ns ds), a9, a10] = some (.int (j : Int), [a0, a1, a2, a3, a4, a5, a6, some (.int (i : Int)), some (.exc (cl j) ns ds), a9, a10])) :
    body [a0, a1, a2, a3, a4, a5, a6, some (.int (i : Int)), some (.exc (cl j) ns ds), a9, a10] = some (.nx [a0, a1, a2, a3, a4, a5, a6, some (.int (i : Int)), some (.exc (cl j) ns ds), some (.int (j : Int)), none]) := by
  have hf : fz (.exc (cl j) ns ds) = .exc (cl j) ns ds := fz_isFz _ (show isFz (.exc (cl j) ns ds) = true from he)
  have far := isFar (cl_mem hj) ns ds
  have mk := marks_ok (ns := ns) (ds := ds) (cl_mem hj) he
  have ne := ne_row hj
  unfold body
  exists h9, ve_ok hj he, lc_ok j _ _ _ _ _ _ _ _ _ _, hf, far, mk, ne
theorem spot_ok {i : Nat} (hi : i < 46) {a0 a1 a2 a3 a4 a5 a6 a8 a9 a10 : Option D} : (mIf (toT (mBin dLt (mVar 7) (mC (.int 26)))) (mBin dFdiv (mVar 7) (mC (.int 2))) (mBin dSub (mVar 7) (mC (.int 13)))) [a0, a1, a2, a3, a4, a5, a6, some (.int (i : Int)), a8, a9, a10] =
    some (.int ((if i < 26 then i / 2 else i - 13 : Nat) : Int), [a0, a1, a2, a3, a4, a5, a6, some (.int (i : Int)), a8, a9, a10]) := by
  by_cases h : i < 26
  · have t : decide ((i : Int) < 26) = true := decide_eq_true (by omega)
    have d : dFdiv (.int (i : Int)) (.int 2) = some (.int ((i / 2 : Nat) : Int)) := by
      show (if (2 : Int) ≠ 0 ∧ (2 : Int).natAbs < 1073741824 then some (D.int ((i : Int).fdiv 2)) else none) = _
      rw [if_pos ⟨by decide, by decide⟩, Int.fdiv_eq_ediv_of_nonneg _ (by decide)]
      rfl
    rw [if_pos h]
    exists t, d
  · have t : decide ((i : Int) < 26) = false := decide_eq_false (by omega)
    have d : dSub (.int (i : Int)) (.int 13) = some (.int ((i - 13 : Nat) : Int)) := by
      show some (D.int ((i : Int) - 13)) = _
      congr 2
      omega
    rw [if_neg h]
    exists t, d
theorem item_eq {x : D} {i : Nat} (hi : i < 46) : ∃ ns ds, (ds = [] ∨ ds = [x]) ∧ item x i = .exc (cl (if i < 26 then i / 2 else i - 13)) ns ds := by
  unfold item
  by_cases h : i < 26
  · rw [if_pos h, if_pos h]
    exact ⟨_, _, .inr rfl, rfl⟩
  · rw [if_neg h, if_neg h]
    exact ⟨_, _, .inl rfl, rfl⟩
theorem loop_ok {x : D} (hx : isFz x = true) {a0 a1 a2 a3 a4 a5 a6 a7 a8 a9 a10 : Option D} : ∃ b7 b8 b9 b10, loopF (tTup (tsCons (tName 7) (tsCons (tName 8) tsNil))) body ((List.range' 0 46).map fun (i : Nat) => .tup [.int (i : Int), item x i]) [a0, a1, a2, a3, a4, a5, a6, a7, a8, a9, a10] =
    some (.nx [a0, a1, a2, a3, a4, a5, a6, b7, b8, b9, b10]) := by
  obtain ⟨δ', e, _, _, _, _, b7, b8, b9, b10, rfl⟩ := loopF_ind (t := tTup (tsCons (tName 7) (tsCons (tName 8) tsNil))) (b := body) (J := fun r δ => ∃ i n, i + n = 46 ∧ r = (List.range' i n).map (fun (i : Nat) => D.tup [.int (i : Int), item x i]) ∧ ∃ b7 b8 b9 b10, δ = [a0, a1, a2, a3, a4, a5, a6, b7, b8, b9, b10])
    (fun d r δ hJ => by
      obtain ⟨i, n, hin, hr, b7, b8, b9, b10, rfl⟩ := hJ
      cases n with
      | zero => exact nomatch hr
      | succ n =>
        rw [List.range'_succ, List.map_cons] at hr
        injection hr with hd hr2
        subst hd
        subst hr2
        obtain ⟨ns, ds, hds, eq⟩ := item_eq (x := x) (i := i) (by omega)
        have he : isFzs ds = true := by
          rcases hds with rfl | rfl
          · rfl
          · simp [isFzs, hx]
        have hj : (if i < 26 then i / 2 else i - 13) < 33 := by split <;> omega
        rw [eq]
        refine ⟨[a0, a1, a2, a3, a4, a5, a6, some (.int (i : Int)), some (.exc (cl (if i < 26 then i / 2 else i - 13)) ns ds), b9, b10], _, ?_, body_ok hj he (spot_ok (by omega)), i + 1, n, by omega, rfl, _, _, _, _, rfl⟩
        have hf : fz (.exc (cl (if i < 26 then i / 2 else i - 13)) ns ds) = .exc (cl (if i < 26 then i / 2 else i - 13)) ns ds := fz_isFz _ (show isFzs ds = true from he)
        first
          | rfl
          | (exists hf)
          | (simp [tTup, tsCons, tsNil, tName]; done)) _ [a0, a1, a2, a3, a4, a5, a6, a7, a8, a9, a10] ⟨0, 46, rfl, rfl, a7, a8, a9, a10, rfl⟩
  exact ⟨b7, b8, b9, b10, e⟩
def rest : MS := (sCons (sPar [5, 6] (mCons (mCall m__law_kept [.e (mVar 3)] []) (mCons (mCall m__law_said [.e (mVar 4)] []) mNil)))
  (sCons (sIf (toT (mBin dNe (mCallB dRepr (mCons (mCall m__law_values [.e (mVar 5)] []) mNil)) (mCallB dRepr (mCons (mBin dMul (mLst (mCons (mVar 3) mNil)) (mCallB dLen (mCons (mVar 5) mNil))) mNil))))
  (sRet (mC (.bl false)))
  sNil)
  (sFor (iEnum2 (mCons (mBin dAdd (mVar 5) (mVar 6)) mNil)) (tTup (tsCons (tName 7) (tsCons (tName 8) tsNil)))
  body)))
theorem said_fz : fzs ((List.range' 13 20).map fun j => D.exc (cl j) [] []) = (List.range' 13 20).map fun j => D.exc (cl j) [] [] := by kernel_rfl
theorem fzs_two (a b : List D) : fzs (a ++ b) = fzs a ++ fzs b := by
  induction a with
  | nil => rfl
  | cons d r ih => simp only [List.cons_append, fzs, ih]
theorem len_kept (x : D) : dLen [.lst false (kept x)] = some (.int 26) := by kernel_rfl
theorem mul_26 {x : D} (hx : fz x = x) : dMul (.lst true [x]) (.int 26) = some (.lst true (List.replicate 26 x)) := by
  have e : dMul (.lst true [x]) (.int 26) = some (.lst true (List.replicate 26 (fz x))) := by kernel_rfl
  rw [e, hx]
theorem add_ks (x : D) : dAdd (.lst false (kept x)) (.lst false ((List.range' 13 20).map fun j => D.exc (cl j) [] [])) = some (.lst true (kept x ++ (List.range' 13 20).map fun j => D.exc (cl j) [] [])) := by
  show (if 46 ≤ sizeLine then _ else none) = _
  exact if_pos (by decide +kernel)
theorem rest_ok {x : D} (hx : x ∈ things) {w : Str} {a0 a1 a2 a5 a6 a7 a8 a9 a10 : Option D} : ∃ b3 b4 b5 b6 b7 b8 b9 b10, rest [a0, a1, a2, some x, some (.str w), a5, a6, a7, a8, a9, a10] = some (.nx [a0, a1, a2, b3, b4, b5, b6, b7, b8, b9, b10]) := by
  have hf : isFz x = true := things_fz x hx
  have fx : fz x = x := fz_isFz x hf
  have k1 := kept_ok x hx
  have s1 := said_ok w
  have v1 := values_ok x hx
  obtain ⟨z, r1⟩ := repr_ok x hx
  have r2 := dRepr_of r1
  have fk : fz (.lst true (kept x)) = .lst false (kept x) := congrArg (D.lst false) (fzs_kept hf)
  have fk2 : fz (.lst false (kept x)) = .lst false (kept x) := congrArg (D.lst false) (fzs_kept hf)
  have fs : fz (.lst true ((List.range' 13 20).map fun j => D.exc (cl j) [] [])) = .lst false ((List.range' 13 20).map fun j => D.exc (cl j) [] []) := congrArg (D.lst false) said_fz
  have ne : dNe (.str z) (.str z) = some (.bl false) := by simp [dNe, dEqB]
  have fa : fzs (kept x ++ (List.range' 13 20).map fun j => D.exc (cl j) [] []) = kept x ++ (List.range' 13 20).map fun j => D.exc (cl j) [] [] := by
    rw [fzs_two, fzs_kept hf, said_fz]
  have en : enumF 0 (fzs (kept x ++ (List.range' 13 20).map fun j => D.exc (cl j) [] [])) = (List.range' 0 46).map fun (i : Nat) => D.tup [D.int (i : Int), item x i] := by
    rw [fa]
    exact items_eq x
  obtain ⟨b7, b8, b9, b10, lp⟩ := loop_ok (x := x) hf (a0 := a0) (a1 := a1) (a2 := a2) (a3 := some x) (a4 := some (.str w)) (a5 := some (.lst false (kept x))) (a6 := some (.lst false ((List.range' 13 20).map fun j => D.exc (cl j) [] []))) (a7 := a7) (a8 := a8) (a9 := a9) (a10 := a10)
  refine ⟨some x, some (.str w), some (.lst false (kept x)), some (.lst false ((List.range' 13 20).map fun j => D.exc (cl j) [] [])), b7, b8, b9, b10, ?_⟩
  unfold rest
  exists fx, k1, s1, fk, fk2, fs, v1, r2, len_kept x, mul_26 fx, ne, add_ks x, en, lp
end K01
set_option Elab.async false
set_option linter.all false
set_option maxRecDepth 100000
set_option maxHeartbeats 0
namespace K01
open PySem PySem.Spec PyProof.Rows L2 DL
local macro_rules | `(tactic| walk_at "ev S") => `(tactic| first
  | (with_reducible apply au_seq) | (with_reducible apply au_nx) | (with_reducible exact au_rt) | (with_reducible apply au_set) | (with_reducible apply au_sif) | (with_reducible exact au_snil) | (with_reducible apply au_expr) | (with_reducible apply au_ret) | (with_reducible apply au_par) | (with_reducible apply au_asg) | (with_reducible apply au_put) | (with_reducible apply au_putF) | (with_reducible apply au_for) | (with_reducible exact au_retN) | (with_reducible exact au_sbk) | (with_reducible exact au_sct) | (with_reducible exact au_bk) | (with_reducible exact au_ct) | walk_at "ev pick")
local macro_rules | `(tactic| walk_at "ev pick") => `(tactic| first
  | (with_reducible apply au_pt) | (with_reducible apply au_pf) | (with_reducible apply au_pht; focus assumption) | (with_reducible apply au_phf; focus assumption) | (with_reducible apply au_pht; focus (exact rfl)) | (with_reducible apply au_phf; focus (exact rfl)) | (with_reducible apply au_pht; focus (simp [*]; done)) | (with_reducible apply au_phf; focus (simp [*]; done)))
local macro_rules | `(tactic| walk_at "ev E") => `(tactic| first
  | (with_reducible apply au_var) | (with_reducible exact au_c) | (with_reducible apply au_bin) | (with_reducible apply au_callB) | (with_reducible apply au_call) | (with_reducible apply au_alt) | (with_reducible apply au_path) | (with_reducible apply au_tup) | (with_reducible apply au_lst) | (with_reducible apply au_fz) | (with_reducible apply au_mv) | (with_reducible apply au_if) | (with_reducible apply au_mand) | (with_reducible apply au_mor) | (with_reducible apply au_mnot) | (with_reducible apply au_purP) | (with_reducible apply au_pur) | (with_reducible apply au_meth) | (with_reducible apply au_methV) | (with_reducible apply au_methW) | (with_reducible apply au_methP) | (with_reducible apply au_methOv) | (with_reducible apply au_methOe) | (with_reducible apply au_make) | (with_reducible apply au_sl) | (with_reducible apply au_un) | (with_reducible apply au_neg) | (with_reducible apply au_tupL) | (with_reducible apply au_listZip) | walk_at "ev pick" | (with_reducible apply au_pmand) | (with_reducible apply au_pmor) | (with_reducible apply au_pval) | exact rfl)
local macro_rules | `(tactic| walk_at "ev T") => `(tactic| first
  | (with_reducible apply au_toT) | (with_reducible apply au_tru) | (with_reducible apply au_not) | (with_reducible apply au_and) | (with_reducible apply au_or) | (with_reducible exact au_ttrue) | (with_reducible apply au_purT) | (with_reducible exact au_xx) | walk_at "ev pick" | (with_reducible apply au_pand) | (with_reducible apply au_por))
local macro_rules | `(tactic| walk_at "ev L") => `(tactic| first
  | (with_reducible apply ev_cons) | (with_reducible exact au_nil) | (with_reducible apply au_zip) | (with_reducible apply au_anyL) | (with_reducible apply au_enum) | (with_reducible apply au_ialt))
local macro_rules | `(tactic| walk_at "ev V") => `(tactic| first
  | (with_reducible exact au_s0) | (with_reducible apply au_ss) | (with_reducible apply au_e1) | (with_reducible apply au_en) | (with_reducible exact au_e0) | (with_reducible apply au_kt) | (with_reducible apply au_kf) | (with_reducible exact au_k0) | (with_reducible exact au_kr) | (with_reducible apply au_kn) | (with_reducible apply au_kt0) | (with_reducible exact au_rs0) | (with_reducible apply au_rsO) | (with_reducible apply au_rsN) | exact rfl)
local macro_rules | `(tactic| walk_at "ev Z") => `(tactic| first
  | (with_reducible exact au_fint) | (with_reducible exact au_fstr) | (with_reducible exact au_fbl) | (with_reducible exact au_fnon) | (with_reducible exact au_fty) | (with_reducible exact au_fglo) | (with_reducible apply au_ftup) | (with_reducible apply au_flst) | (with_reducible apply au_fdct) | (with_reducible apply au_fobj) | (with_reducible refine fz_isFz _ (by assumption)) | (with_reducible apply fz_isFz) | exact rfl)
local macro_rules | `(tactic| walk_at "ev D") => `(tactic| first
  | (with_reducible exact au_f0) | (with_reducible apply au_fs) | (with_reducible exact au_fstrs) | (with_reducible exact au_fst0) | (with_reducible apply au_fsts) | (with_reducible exact au_a0) | (with_reducible apply au_as) | exact rfl)
local macro_rules | `(tactic| walk_at "ev") => `(tactic| first
  | (with_reducible apply gE; walk_at "ev E")
  | (with_reducible apply gV; walk_at "ev V")
  | (with_reducible apply gL; walk_at "ev L")
  | (with_reducible apply gT; walk_at "ev T")
  | (with_reducible apply gS; walk_at "ev S")
  | (with_reducible apply gZ; walk_at "ev Z")
  | (with_reducible apply gD; walk_at "ev D")
  | (with_reducible apply gK; first | (with_reducible exact au_kc) | (with_reducible apply au_kpur) | exact rfl)
  | (with_reducible apply gP; first | (with_reducible exact au_pvar) | (with_reducible apply au_psub) | (with_reducible apply au_pfld))
  | (with_reducible apply gQ; first | (with_reducible exact au_a0) | (with_reducible apply au_as))
  | (with_reducible apply gA; first | (with_reducible exact au_args0) | (with_reducible apply au_argsE) | (with_reducible apply au_argsV))
  | (with_reducible apply gN; first | (with_reducible exact au_lend0) | (with_reducible apply au_lendE) | (refine' au_lendO rfl rfl ?_ ?_) | (refine' au_lendF rfl ?_ ?_))
  | (with_reducible apply gM; first | (with_reducible apply perm2) | (with_reducible apply perm3) | (with_reducible apply au_perm))
  | (with_reducible apply gW; first | (with_reducible apply au_append) | (with_reducible apply au_w0) | (with_reducible apply au_wt) | exact rfl)
  | (with_reducible apply gG; first | (with_reducible apply au_tname) | (with_reducible apply au_ttup) | (with_reducible exact au_tsnil) | (with_reducible apply au_tscons) | (with_reducible exact au_sets0) | (with_reducible apply au_setss) | exact rfl)
  | (with_reducible apply gO; first | (with_reducible exact au_onone) | (with_reducible apply au_osome))
  | (with_reducible apply gR; first | (with_reducible exact au_pairs0) | (with_reducible apply au_pairss))
  | (with_reducible apply gC; first | (with_reducible exact au_ks0) | (with_reducible apply au_kss) | exact rfl)
  | exact rfl | (apply gProp; assumption) | (intro _) | (with_reducible apply Exists.intro) | (with_reducible apply And.intro))
local macro_rules | `(tactic| exists $ts,*) => `(tactic| repeat' (first $[| (with_reducible refine' $ts)]* | walk_at "ev"))
theorem texts : dMulS (.str "a") (.int 60) = some (.str (repS "a" 60)) := by kernel_rfl
def lap : MS := (sCons (sPar [3, 4] (mCons (mCall m__law_value [.v 1] []) (mCons (mCall m__law_pick [.v 1, .e (mFz (mLst (mCons (mC (.str "")) (mCons (mC (.str "no scene")) (mCons (mBin dMulS (mC (.str "a")) (mC (.int 60))) mNil)))))] []) mNil))) rest)
def WD : List D := [.str "", .str "no scene", .str (repS "a" 60)]
theorem lap_ok {s : Dr} {b : Nat} (h : s.Ok b) (hb : b + 10 < 2 ^ 40) {a0 a2 a3 a4 a5 a6 a7 a8 a9 a10 : Option D} :
    ∃ s' : Dr, ∃ b3 b4 b5 b6 b7 b8 b9 b10, s'.Ok (b + 2) ∧ lap [a0, some s.d, a2, a3, a4, a5, a6, a7, a8, a9, a10] = some (.nx [a0, some s'.d, a2, b3, b4, b5, b6, b7, b8, b9, b10]) := by
  obtain ⟨x, hx, s1, h1, e1⟩ := value_ok h (by omega)
  obtain ⟨j, d, hj, s2, h2, e2⟩ := pick_ok (o := false) (ds := WD) h1 (by omega) (by unfold WD; exact List.cons_ne_nil _ _) (by decide)
  obtain ⟨w, rfl⟩ : ∃ w, d = .str w := by
    have m := List.mem_of_getElem? hj
    simp only [WD, List.mem_cons, List.not_mem_nil, or_false] at m
    rcases m with rfl | rfl | rfl <;> exact ⟨_, rfl⟩
  obtain ⟨b3, b4, b5, b6, b7, b8, b9, b10, er⟩ := rest_ok hx (w := w) (a0 := a0) (a1 := some s2.d) (a2 := a2) (a5 := a5) (a6 := a6) (a7 := a7) (a8 := a8) (a9 := a9) (a10 := a10)
  have fw : fzs WD = WD := rfl
  have f0 : fz (.lst true [.str "", .str "no scene", .str (repS "a" 60)]) = .lst false WD := rfl
  rw [fw] at e2
  refine ⟨s2, b3, b4, b5, b6, b7, b8, b9, b10, h2, ?_⟩
  unfold lap
  exists e1, e2, texts, f0, er
theorem law_true (nums : List Int) (hn : nums.length ≤ 63) : ∃ ds', m_law [.scr (nums.map D.int)] = some (.bl true, ds') := by
  obtain ⟨s0, h0, e0⟩ := begun_ok hn
  have scf : isFz (.scr (nums.map D.int)) = true := isFzs_ints nums
  let k : Int := 1 + (if (8 : Int) < ((nums.map D.int).length : Int) then 8 else ((nums.map D.int).length : Int))
  have k0 : 0 ≤ k := by show 0 ≤ 1 + (if (8 : Int) < ((nums.map D.int).length : Int) then (8 : Int) else ((nums.map D.int).length : Int)); split <;> omega
  have k1 : k ≤ 9 := by show 1 + (if (8 : Int) < ((nums.map D.int).length : Int) then (8 : Int) else ((nums.map D.int).length : Int)) ≤ 9; split <;> omega
  have rg : (mRng1 (mCons (mBin dAdd (mC (.int 1)) (mCallB dMin2 (mCons (mCallB dLen (mCons (mVar 0) mNil)) (mCons (mC (.int 8)) mNil)))) mNil)) [some (.scr (nums.map D.int)), some s0.d, none, none, none, none, none, none, none, none, none] = some (rngD 0 k.toNat, [some (.scr (nums.map D.int)), some s0.d, none, none, none, none, none, none, none, none, none]) :=
    ev_rng (ev_bin (g := dAdd) (a := mC (.int 1)) rfl (ev_callB (g := dMin2) (ev_cons (ev_call1 (g := dLen) (ev_var (i := 0) rfl scf) rfl) (ev_cons (a := mC (.int 8)) rfl (r := mNil) rfl)) rfl) rfl) k0 (by omega)
  obtain ⟨δ', el, _, sj, y2, y3, y4, y5, y6, y7, y8, y9, y10, kj, rfl⟩ := loopF_ind (t := tName 2) (b := lap)
    (J := fun r δ => r.length ≤ 9 ∧ ∃ (sj : Dr) (y2 y3 y4 y5 y6 y7 y8 y9 y10 : Option D), sj.Ok (100 - 10 * r.length) ∧ δ = [some (.scr (nums.map D.int)), some sj.d, y2, y3, y4, y5, y6, y7, y8, y9, y10])
    (fun d r δ hJ => by
      obtain ⟨hr, sj, y2, y3, y4, y5, y6, y7, y8, y9, y10, kj, rfl⟩ := hJ
      rw [List.length_cons] at hr kj
      obtain ⟨s', z3, z4, z5, z6, z7, z8, z9, z10, k', e⟩ := lap_ok kj (by omega) (a0 := some (.scr (nums.map D.int))) (a2 := some d) (a3 := y3) (a4 := y4) (a5 := y5) (a6 := y6) (a7 := y7) (a8 := y8) (a9 := y9) (a10 := y10)
      exact ⟨_, _, rfl, e, by omega, s', some d, z3, z4, z5, z6, z7, z8, z9, z10, k'.mono (by omega), rfl⟩) (rngD 0 k.toNat) [some (.scr (nums.map D.int)), some s0.d, none, none, none, none, none, none, none, none, none]
    ⟨by have hl : (rngD 0 k.toNat).length = k.toNat := by simp [rngD]
        rw [hl]; omega, s0, none, none, none, none, none, none, none, none, none, h0.mono (by omega), rfl⟩
  have f0 : fz (.scr (nums.map D.int)) = .scr (nums.map D.int) := fz_isFz _ scf
  have go : (sCons (sSet 1 (mCall m__law_begun [.e (mVar 0)] []))
  (sCons (sFor (mRng1 (mCons (mBin dAdd (mC (.int 1)) (mCallB dMin2 (mCons (mCallB dLen (mCons (mVar 0) mNil)) (mCons (mC (.int 8)) mNil)))) mNil)) (tName 2)
  lap)
  (sRet (mC (.bl true))))) [some (.scr (nums.map D.int)), none, none, none, none, none, none, none, none, none, none] = some (.rt (.bl true) [some (.scr (nums.map D.int)), some sj.d, y2, y3, y4, y5, y6, y7, y8, y9, y10]) := by
    exists e0, f0, rg, el
  apply Exists.intro
  unfold m_law
  apply au_fin (k := 10) rfl rfl
  exists f0, go
end K01
set_option Elab.async false
set_option linter.all false
set_option maxRecDepth 100000
set_option maxHeartbeats 0
open PySem PySem.W PySem.Calls PyProof.Rows
theorem PySem.Challenge.cw_farkeepers_k01_errors_by_hand_holds : PySem.Challenge.rw_farkeepers_k01_errors_by_hand.Holds := by
  w_on; o_law
  refine HandSHeadRun.head_any (r := OpenLaw.row PySem.Challenge.rw_farkeepers_k01_errors_by_hand) (q := view (OpenLaw.row PySem.Challenge.rw_farkeepers_k01_errors_by_hand).prog [47]) (H := K01.hk) (ob := K01.ob) (M := 12000) (loose := K01.names) (d := HandSHeadRun.topDef (OpenLaw.row PySem.Challenge.rw_farkeepers_k01_errors_by_hand).prog 47) (kwd := []) K01.ob_eq
    (by kernel_rfl) (fun s => by kernel_rfl) K01.run (by kernel_rfl) (by kernel_rfl) (by kernel_rfl) (by rfl) (by first | assumption | decide +kernel) (by decide +kernel) ⟨rfl, rfl, rfl, rfl, rfl, by decide +kernel⟩ ?hw ?hc
  case hw => w_witness2
  case hc =>
    refine DL.walk_ofG (l := PySem.Challenge.rw_farkeepers_k01_errors_by_hand) (n := 63) (k := 5) (px := "_law_script") (m := K01.m_law) rfl (by decide) (by kernel_rfl) ⟨rfl, by decide, by decide⟩ K01.law_true ?F
    intro w mg lf h Y G hmg0
    obtain ⟨K, KX, c⟩ := Y
    have hmg : mg ("law" : PySem.Str) = some (.ref lf) := by
      have e : (HandSHeadRun.topDef (OpenLaw.row PySem.Challenge.rw_farkeepers_k01_errors_by_hand).prog 47).name = ("law" : PySem.Str) := by kernel_rfl
      rw [← e]
      exact hmg0
    obtain ⟨fd, hb, hF⟩ := K01.facts (P := (PySem.Challenge.rw_farkeepers_k01_errors_by_hand).prog) (w := w) KX G hmg c
    exact ⟨K, fd, KX, hb, hF⟩
