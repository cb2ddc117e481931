import PyProof.Rows.All
import Wide.All
import OpenK.AllK
import Wide.FinOn
import HandS.ForMost
import HandS.ForExc
import HandS.Deep
import HandS.CallSlots
import HandS.ExcCtx
import HandS.Lambda
import HandS.IsInst
import HandS.TupLe
import HandS.Style
import HandS.WideBits
import KE.GoesMore
import HandS.Strs
import HandS.SetFor
import HandS.Zip
import KE.DataMinMax
import KE.SortData
import HandS.Small
import HandS.Text
import PyProof.StrBlock2
import HandS.HotCalls
import KE.KExcIs
import HandS.EndTab
import KE.KDictZip
import HandS.TupSets
import KE.KDictKeyed
import KE.SortKeyHeap
import HandS.Conv
import HandS.NoneIn
import HandS.More
import HandS.TupAny
import PySem.Challenge.RW_handsapart_k63_sets_written
set_option autoImplicit false
set_option Elab.async false
set_option linter.all false
set_option maxRecDepth 100000
namespace Hap
open PySem PySem.Spec PyProof.Rows L2
abbrev AS := Addr → Prop
/-- the tables of code objects that stand in the heap, with the names of their codes -/
class TabC where
  T : List (Addr × Str)
/-- not such a table -/
def NT (o : HO) : Prop := ∀ ps, o ≠ .tbl ps
theorem nt_lst {vs} : NT (.lst vs) := fun _ z => nomatch z
theorem nt_tup {vs} : NT (.tup vs) := fun _ z => nomatch z
theorem nt_dK {vs} : NT (.dK vs) := fun _ z => nomatch z
theorem nt_dT {vs} : NT (.dT vs) := fun _ z => nomatch z
theorem nt_ins {C dx fs} : NT (.ins C dx fs) := fun _ z => nomatch z
theorem nt_frz {o u} : NT (.frz o u) := fun _ z => nomatch z
/-- a thing that may be written -/
inductive Nd : HO → Prop
  | lst {vs} : Nd (.lst vs)
  | dK {k} : Nd (.dK k)
  | dT {k} : Nd (.dT k)
  | ins {C dx fs} : Nd (.ins C dx fs)
theorem tabs_write {T : List (Addr × Str)} {H : Hp} {a : Addr} {o u : HO} (t : LamX.Tabs T H) (e : H a = some u) (n : Nd u) : LamX.Tabs T (upd H a o) := fun p hp => by
  obtain ⟨ps, h1, h2, h3⟩ := t p hp
  have ne : ∀ {b : Addr} {w : HO}, H b = some w → w ≠ u → b ≠ a := fun {b w} hb hw z => by
    subst z
    rw [e] at hb
    exact hw (Option.some.inj hb).symm
  refine ⟨ps, by rw [upd_ne (ne h1 fun z => by cases n <;> cases z)]; exact h1, h2, fun pos cv hc => ?_⟩
  obtain ⟨c, e1, e2⟩ := h3 pos cv hc
  refine ⟨c, e1, ?_⟩
  rw [upd_ne (ne e2 fun z => by unfold LamX.CodeO at z; cases n <;> cases z)]
  exact e2
inductive D where
  | non
  | bl (b : Bool)
  | int (i : Int)
  | str (x : Str)
  | lst (o : Bool) (xs : List D)
  | tup (xs : List D)
  | dct (o : Bool) (ks : List Key) (xs : List D)
  | dcT (o : Bool) (ks : List (List Key)) (xs : List D)
  | rol (xs : List D)
  | gv (v : V)
  | obj (o : Bool) (C : Addr) (ns : List Str) (xs : List D)
theorem rd_mono {H H' : Hp} {a : Addr} {u : HO} (r : Rd H a u) (h1 : H a = some u → H' a = some u) (h2 : ∀ o, H a = some (.frz o u) → H' a = some (.frz o u)) : Rd H' a u := r.elim (fun e => .inl (h1 e)) fun ⟨o, e⟩ => .inr ⟨o, h2 o e⟩
theorem DGet.kR {H : Hp} {a : Addr} {kvs : List (Key × V)} {k : Key} (e : Rd H a (.dK kvs)) : DGet H a (kV k) (valV kvs k) := .inl ⟨kvs, k, e, rfl, rfl⟩
theorem DGet.tR {H : Hp} {a b : Addr} {kvs : List (List Key × V)} {k : List Key} (e : Rd H a (.dT kvs)) (eb : H b = some (.tup (k.map kV))) : DGet H a (.ref b) (valV kvs k) := .inr ⟨kvs, k, b, e, rfl, eb, rfl⟩
mutual
/-- no node of one's own -/
def isImm : D → Bool
  | .lst o xs => !o && isImms xs
  | .tup xs => isImms xs
  | .dct o _ xs => !o && isImms xs
  | .dcT o _ xs => !o && isImms xs
  | .rol xs => isImms xs
  | .obj o _ _ xs => !o && isImms xs
  | _ => true
def isImms : List D → Bool
  | [] => true
  | d :: ds => isImm d && isImms ds
end
mutual
/-- all nodes given up -/
def frz : D → D
  | .lst _ xs => .lst false (frzs xs)
  | .tup xs => .tup (frzs xs)
  | .dct _ ks xs => .dct false ks (frzs xs)
  | .dcT _ ks xs => .dcT false ks (frzs xs)
  | .rol xs => .rol (frzs xs)
  | .non => .non
  | .bl b => .bl b
  | .int i => .int i
  | .str x => .str x
  | .gv v => .gv v
  | .obj _ C ns xs => .obj false C ns (frzs xs)
def frzs : List D → List D
  | [] => []
  | d :: ds => frz d :: frzs ds
end
/-- an address that is read, not by the heap of the program's own making: frozen, or of the module -/
def Rol (K : PySem.W.Frag) (H : Hp) (P : AS) (p : Addr) (vs : List V) : Prop :=
  (P p ∧ (H p = some (.lst vs) ∨ ∃ o, H p = some (.frz o (.lst vs)))) ∨
    ∃ (o : Obj) (its : Array Value) (n : Nat), K.lookup p = some o ∧ o.cls = .type "list" ∧ o.dict = none ∧ o.data = .seq its n ∧ its.size ≤ sizeLine ∧ Vals vs its.toList
mutual
/-- a value that stands for a datum; z: with the ownership (F: at most these addresses are one's own) -/
inductive Rl (z : Bool) (K : PySem.W.Frag) (P : AS) (H : Hp) : D → V → AS → Prop
  | non {F} : Rl z K P H .non .non F
  | bl {b F} : Rl z K P H (.bl b) (.bl b) F
  | int {i F} : Rl z K P H (.int i) (.int i) F
  | str {x F} : Rl z K P H (.str x) (.str x) F
  | lstO {p vs ds F F'} : H p = some (.lst vs) → (z = true → F p) → (∀ b, F' b → F b ∧ b ≠ p) → Rls z K P H ds vs F' → Rl z K P H (.lst true ds) (.ref p) F
  | lstI {p vs ds F} : H p = some (.lst vs) → P p → isImms ds = true → Rls z K P H ds vs (fun _ => False) → Rl z K P H (.lst false ds) (.ref p) F
  | tup {p vs ds F} : H p = some (.tup vs) → P p → Rls z K P H ds vs F → Rl z K P H (.tup ds) (.ref p) F
  | dctO {p kvs ks vs ds F F'} : H p = some (.dK kvs) → kvs = List.zip ks vs → ks.length = vs.length → (z = true → F p) → (∀ b, F' b → F b ∧ b ≠ p) → Rls z K P H ds vs F' → Rl z K P H (.dct true ks ds) (.ref p) F
  | dctI {p kvs ks vs ds F} : Rd H p (.dK kvs) → kvs = List.zip ks vs → ks.length = vs.length → P p → isImms ds = true → Rls z K P H ds vs (fun _ => False) → Rl z K P H (.dct false ks ds) (.ref p) F
  | dcTO {p kvs ks vs ds F F'} : H p = some (.dT kvs) → kvs = List.zip ks vs → ks.length = vs.length → (z = true → F p) → (∀ b, F' b → F b ∧ b ≠ p) → Rls z K P H ds vs F' → Rl z K P H (.dcT true ks ds) (.ref p) F
  | dcTI {p kvs ks vs ds F} : Rd H p (.dT kvs) → kvs = List.zip ks vs → ks.length = vs.length → P p → isImms ds = true → Rls z K P H ds vs (fun _ => False) → Rl z K P H (.dcT false ks ds) (.ref p) F
  | rol {p vs ds F} : Rol K H P p vs → isImms ds = true → Rls z K P H ds vs (fun _ => False) → Rl z K P H (.rol ds) (.ref p) F
  | gv {v F} : Rl z K P H (.gv v) v F
  | objO {p C dx fs ns vs ds F F'} : H p = some (.ins C dx fs) → fs = List.zip ns vs → ns.length = vs.length → (z = true → F p) → (∀ b, F' b → F b ∧ b ≠ p) → Rls z K P H ds vs F' → Rl z K P H (.obj true C ns ds) (.ref p) F
  | objI {p C dx fs ns vs ds F} : H p = some (.ins C dx fs) → fs = List.zip ns vs → ns.length = vs.length → P p → isImms ds = true → Rls z K P H ds vs (fun _ => False) → Rl z K P H (.obj false C ns ds) (.ref p) F
inductive Rls (z : Bool) (K : PySem.W.Frag) (P : AS) (H : Hp) : List D → List V → AS → Prop
  | nil {F} : Rls z K P H [] [] F
  | cons {d v ds vs F F1 F2} : Rl z K P H d v F1 → Rls z K P H ds vs F2 → (∀ b, F1 b → F b) → (∀ b, F2 b → F b) → (∀ b, F1 b → F2 b → False) → Rls z K P H (d :: ds) (v :: vs) F
end
section
variable {z z' : Bool} {K : PySem.W.Frag} {P P' : AS} {H H' : Hp} {F F' : AS} {d : D} {v : V} {ds : List D} {vs : List V}
theorem Rol.mono {p : Addr} (h : Rol K H P p vs) (hP : ∀ b, P b → P' b) (hH : ∀ b o, H b = some o → (z = true → P b ∨ F b) → NT o → H' b = some o) : Rol K H' P' p vs := by
  rcases h with ⟨hp, e | ⟨o, e⟩⟩ | h
  · exact .inl ⟨hP _ hp, .inl (hH _ _ e (fun _ => .inl hp) nt_lst)⟩
  · exact .inl ⟨hP _ hp, .inr ⟨o, hH _ _ e (fun _ => .inl hp) nt_frz⟩⟩
  · exact .inr h
mutual
theorem rl_mono {z : Bool} {K : PySem.W.Frag} {P P' : AS} {H H' : Hp} {F F' : AS} {d : D} {v : V} (h : Rl z K P H d v F) (hP : ∀ b, P b → P' b) (hH : ∀ b o, H b = some o → (z = true → P b ∨ F b) → NT o → H' b = some o) (hF : ∀ b, F b → F' b) : Rl z K P' H' d v F' := by
  cases h with
  | non => exact .non
  | bl => exact .bl
  | int => exact .int
  | str => exact .str
  | lstO e f s r => exact .lstO (hH _ _ e (fun q => .inr (f q)) nt_lst) (fun q => hF _ (f q)) (fun b q => ⟨hF _ (s b q).1, (s b q).2⟩) (rls_mono r hP (fun b o e q => hH b o e fun w => (q w).imp id fun t => (s b t).1) fun _ q => q)
  | lstI e p i r => exact .lstI (hH _ _ e (fun _ => .inl p) nt_lst) (hP _ p) i (rls_mono r hP (fun b o e q => hH b o e fun w => (q w).imp id fun t => t.elim) fun _ q => q)
  | tup e p r => exact .tup (hH _ _ e (fun _ => .inl p) nt_tup) (hP _ p) (rls_mono r hP hH hF)
  | dctO e k l f s r => exact .dctO (hH _ _ e (fun q => .inr (f q)) nt_dK) k l (fun q => hF _ (f q)) (fun b q => ⟨hF _ (s b q).1, (s b q).2⟩) (rls_mono r hP (fun b o e q => hH b o e fun w => (q w).imp id fun t => (s b t).1) fun _ q => q)
  | dctI e k l p i r => exact .dctI (rd_mono e (fun e => hH _ _ e (fun _ => .inl p) nt_dK) fun o e => hH _ _ e (fun _ => .inl p) nt_frz) k l (hP _ p) i (rls_mono r hP (fun b o e q => hH b o e fun w => (q w).imp id fun t => t.elim) fun _ q => q)
  | dcTO e k l f s r => exact .dcTO (hH _ _ e (fun q => .inr (f q)) nt_dT) k l (fun q => hF _ (f q)) (fun b q => ⟨hF _ (s b q).1, (s b q).2⟩) (rls_mono r hP (fun b o e q => hH b o e fun w => (q w).imp id fun t => (s b t).1) fun _ q => q)
  | dcTI e k l p i r => exact .dcTI (rd_mono e (fun e => hH _ _ e (fun _ => .inl p) nt_dT) fun o e => hH _ _ e (fun _ => .inl p) nt_frz) k l (hP _ p) i (rls_mono r hP (fun b o e q => hH b o e fun w => (q w).imp id fun t => t.elim) fun _ q => q)
  | rol e i r => exact .rol (Rol.mono e hP hH) i (rls_mono r hP (fun b o e q => hH b o e fun w => (q w).imp id fun t => t.elim) fun _ q => q)
  | gv => exact .gv
  | objO e k l f s r => exact .objO (hH _ _ e (fun q => .inr (f q)) nt_ins) k l (fun q => hF _ (f q)) (fun b q => ⟨hF _ (s b q).1, (s b q).2⟩) (rls_mono r hP (fun b o e q => hH b o e fun w => (q w).imp id fun t => (s b t).1) fun _ q => q)
  | objI e k l p i r => exact .objI (hH _ _ e (fun _ => .inl p) nt_ins) k l (hP _ p) i (rls_mono r hP (fun b o e q => hH b o e fun w => (q w).imp id fun t => t.elim) fun _ q => q)
theorem rls_mono {z : Bool} {K : PySem.W.Frag} {P P' : AS} {H H' : Hp} {F F' : AS} {ds : List D} {vs : List V} (h : Rls z K P H ds vs F) (hP : ∀ b, P b → P' b) (hH : ∀ b o, H b = some o → (z = true → P b ∨ F b) → NT o → H' b = some o) (hF : ∀ b, F b → F' b) : Rls z K P' H' ds vs F' := by
  cases h with
  | nil => exact .nil
  | cons r rs s1 s2 dj => exact .cons (rl_mono r hP (fun b o e q => hH b o e fun w => (q w).imp id (s1 b)) fun _ q => q) (rls_mono rs hP (fun b o e q => hH b o e fun w => (q w).imp id (s2 b)) fun _ q => q) (fun b q => hF _ (s1 b q)) (fun b q => hF _ (s2 b q)) dj
end
mutual
theorem rl_view {z : Bool} {K : PySem.W.Frag} {P : AS} {H : Hp} {F F' : AS} {d : D} {v : V} (h : Rl z K P H d v F) : Rl false K P H d v F' := by
  cases h with
  | non => exact .non
  | bl => exact .bl
  | int => exact .int
  | str => exact .str
  | lstO e f s r => exact .lstO (F' := fun _ => False) e (fun q => by cases q) (fun b q => q.elim) (rls_view r)
  | lstI e p i r => exact .lstI e p i (rls_view r)
  | tup e p r => exact .tup e p (rls_view r)
  | dctO e k l f s r => exact .dctO (F' := fun _ => False) e k l (fun q => by cases q) (fun b q => q.elim) (rls_view r)
  | dctI e k l p i r => exact .dctI e k l p i (rls_view r)
  | dcTO e k l f s r => exact .dcTO (F' := fun _ => False) e k l (fun q => by cases q) (fun b q => q.elim) (rls_view r)
  | dcTI e k l p i r => exact .dcTI e k l p i (rls_view r)
  | rol e i r => exact .rol e i (rls_view r)
  | gv => exact .gv
  | objO e k l f s r => exact .objO (F' := fun _ => False) e k l (fun q => by cases q) (fun b q => q.elim) (rls_view r)
  | objI e k l p i r => exact .objI e k l p i (rls_view r)
theorem rls_view {z : Bool} {K : PySem.W.Frag} {P : AS} {H : Hp} {F F' : AS} {ds : List D} {vs : List V} (h : Rls z K P H ds vs F) : Rls false K P H ds vs F' := by
  cases h with
  | nil => exact .nil
  | cons r rs s1 s2 dj => exact .cons (F1 := fun _ => False) (F2 := fun _ => False) (rl_view r) (rls_view rs) (fun b q => q.elim) (fun b q => q.elim) fun _ q => q.elim
end
mutual
theorem rl_imm {z z' : Bool} {K : PySem.W.Frag} {P : AS} {H : Hp} {F F' : AS} {d : D} {v : V} (h : Rl z K P H d v F) (i : isImm d = true) : Rl z' K P H d v F' := by
  cases h with
  | non => exact .non
  | bl => exact .bl
  | int => exact .int
  | str => exact .str
  | lstO e f s r => simp [isImm] at i
  | lstI e p i r => exact .lstI e p i (rls_imm r i)
  | tup e p r => exact .tup e p (rls_imm r (by simpa [isImm] using i))
  | dctO e k l f s r => simp [isImm] at i
  | dctI e k l p i r => exact .dctI e k l p i (rls_imm r i)
  | dcTO e k l f s r => simp [isImm] at i
  | dcTI e k l p i r => exact .dcTI e k l p i (rls_imm r i)
  | rol e i r => exact .rol e i (rls_imm r i)
  | gv => exact .gv
  | objO e k l f s r => simp [isImm] at i
  | objI e k l p i r => exact .objI e k l p i (rls_imm r i)
theorem rls_imm {z z' : Bool} {K : PySem.W.Frag} {P : AS} {H : Hp} {F F' : AS} {ds : List D} {vs : List V} (h : Rls z K P H ds vs F) (i : isImms ds = true) : Rls z' K P H ds vs F' := by
  cases h with
  | nil => exact .nil
  | cons r rs s1 s2 dj =>
    simp only [isImms, Bool.and_eq_true] at i
    exact .cons (F1 := fun _ => False) (F2 := fun _ => False) (rl_imm r i.1) (rls_imm rs i.2) (fun b q => q.elim) (fun b q => q.elim) fun _ q => q.elim
end
mutual
theorem isImm_frz : ∀ d : D, isImm (frz d) = true
  | .non => rfl
  | .bl _ => rfl
  | .int _ => rfl
  | .str _ => rfl
  | .lst _ xs => by simp only [frz, isImm, isImms_frzs xs]; rfl
  | .tup xs => by simp only [frz, isImm, isImms_frzs xs]
  | .dct _ _ xs => by simp only [frz, isImm, isImms_frzs xs]; rfl
  | .dcT _ _ xs => by simp only [frz, isImm, isImms_frzs xs]; rfl
  | .rol xs => by simp only [frz, isImm, isImms_frzs xs]
  | .gv _ => rfl
  | .obj _ _ _ xs => by simp only [frz, isImm, isImms_frzs xs]; rfl
theorem isImms_frzs : ∀ ds : List D, isImms (frzs ds) = true
  | [] => rfl
  | d :: ds => by simp only [frzs, isImms, isImm_frz d, isImms_frzs ds]; rfl
end
mutual
theorem frz_imm : ∀ d : D, isImm d = true → frz d = d
  | .non, _ => rfl
  | .bl _, _ => rfl
  | .int _, _ => rfl
  | .str _, _ => rfl
  | .lst o xs, h => by
    simp only [isImm, Bool.and_eq_true, Bool.not_eq_true'] at h
    simp only [frz, frzs_imm xs h.2, h.1]
  | .tup xs, h => by
    simp only [isImm] at h
    simp only [frz, frzs_imm xs h]
  | .dct o _ xs, h => by
    simp only [isImm, Bool.and_eq_true, Bool.not_eq_true'] at h
    simp only [frz, frzs_imm xs h.2, h.1]
  | .dcT o _ xs, h => by
    simp only [isImm, Bool.and_eq_true, Bool.not_eq_true'] at h
    simp only [frz, frzs_imm xs h.2, h.1]
  | .rol xs, h => by
    simp only [isImm] at h
    simp only [frz, frzs_imm xs h]
  | .gv _, _ => rfl
  | .obj o _ _ xs, h => by
    simp only [isImm, Bool.and_eq_true, Bool.not_eq_true'] at h
    simp only [frz, frzs_imm xs h.2, h.1]
theorem frzs_imm : ∀ ds : List D, isImms ds = true → frzs ds = ds
  | [], _ => rfl
  | d :: ds, h => by
    simp only [isImms, Bool.and_eq_true] at h
    simp only [frzs, frz_imm d h.1, frzs_imm ds h.2]
end
mutual
theorem rl_frz {z : Bool} {K : PySem.W.Frag} {P P' : AS} {H : Hp} {F F' : AS} {d : D} {v : V} (h : Rl true K P H d v F) (hP : ∀ b, P b → P' b) (hF : ∀ b, F b → P' b) : Rl z K P' H (frz d) v F' := by
  cases h with
  | non => exact .non
  | bl => exact .bl
  | int => exact .int
  | str => exact .str
  | lstO e f s r => exact .lstI e (hF _ (f rfl)) (isImms_frzs _) (rls_frz r hP fun b q => hF _ (s b q).1)
  | lstI e p i r => exact .lstI e (hP _ p) (isImms_frzs _) (rls_frz r hP fun b q => q.elim)
  | tup e p r => exact .tup e (hP _ p) (rls_frz r hP hF)
  | dctO e k l f s r => exact .dctI (.inl e) k l (hF _ (f rfl)) (isImms_frzs _) (rls_frz r hP fun b q => hF _ (s b q).1)
  | dctI e k l p i r => exact .dctI e k l (hP _ p) (isImms_frzs _) (rls_frz r hP fun b q => q.elim)
  | dcTO e k l f s r => exact .dcTI (.inl e) k l (hF _ (f rfl)) (isImms_frzs _) (rls_frz r hP fun b q => hF _ (s b q).1)
  | dcTI e k l p i r => exact .dcTI e k l (hP _ p) (isImms_frzs _) (rls_frz r hP fun b q => q.elim)
  | rol e i r => exact .rol (Rol.mono (z := true) (F := fun _ => False) e hP fun b o e _ _ => e) (isImms_frzs _) (rls_frz r hP fun b q => q.elim)
  | gv => exact .gv
  | objO e k l f s r => exact .objI e k l (hF _ (f rfl)) (isImms_frzs _) (rls_frz r hP fun b q => hF _ (s b q).1)
  | objI e k l p i r => exact .objI e k l (hP _ p) (isImms_frzs _) (rls_frz r hP fun b q => q.elim)
theorem rls_frz {z : Bool} {K : PySem.W.Frag} {P P' : AS} {H : Hp} {F F' : AS} {ds : List D} {vs : List V} (h : Rls true K P H ds vs F) (hP : ∀ b, P b → P' b) (hF : ∀ b, F b → P' b) : Rls z K P' H (frzs ds) vs F' := by
  cases h with
  | nil => exact .nil
  | cons r rs s1 s2 dj => exact .cons (F1 := fun _ => False) (F2 := fun _ => False) (rl_frz r hP fun b q => hF _ (s1 b q)) (rls_frz rs hP fun b q => hF _ (s2 b q)) (fun b q => q.elim) (fun b q => q.elim) fun _ q => q.elim
end
theorem rls_len {z : Bool} {K : PySem.W.Frag} {P : AS} {H : Hp} : ∀ {ds : List D} {vs : List V} {F : AS}, Rls z K P H ds vs F → ds.length = vs.length
  | _, _, _, .nil => rfl
  | _, _, _, .cons _ t _ _ _ => congrArg (· + 1) (rls_len t)
theorem rls_get {z : Bool} {K : PySem.W.Frag} {P : AS} {H : Hp} : ∀ {ds : List D} {vs : List V} {F : AS} {i : Nat} {d : D}, Rls z K P H ds vs F → ds[i]? = some d → ∃ v, vs[i]? = some v ∧ Rl z K P H d v F
  | _, _, _, _, _, .nil, e => by simp at e
  | _, _, _, 0, _, .cons r _ s1 _ _, e => by
    simp at e; subst e
    exact ⟨_, rfl, rl_mono r (fun _ q => q) (fun _ _ e _ _ => e) s1⟩
  | _, _, _, i + 1, _, .cons _ t _ s2 _, e => by
    obtain ⟨v, e1, r⟩ := rls_get (i := i) t (by simpa using e)
    exact ⟨v, by simpa using e1, rl_mono r (fun _ q => q) (fun _ _ e _ _ => e) s2⟩
end
end Hap
namespace Hap
open PySem PySem.Spec PyProof.Rows L2
abbrev Ev := List (Option D)
/-- an exception as a datum: its class's name, its fields -/
structure DX where
  cls : Str
  args : List D
inductive R (α : Type) where
  | ok (a : α) (ρ : Ev)
  | exc (x : DX) (ρ : Ev)
  | stk
inductive RS where
  | nx (ρ : Ev)
  | rt (d : D) (ρ : Ev)
  | bk (ρ : Ev)
  | ct (ρ : Ev)
  | exc (x : DX) (ρ : Ev)
  | stk
abbrev FP := Nat → AS
def U (FE : FP) : AS := fun b => ∃ i, FE i b
structure Stt [TabC] (K : PySem.W.Frag) (P : AS) (H : Hp) (ρ : Ev) (σ : L2.St) (FE : FP) : Prop where
  pin : ∀ b, P b → H b ≠ none
  fin : ∀ i b, FE i b → H b ≠ none ∧ ¬ P b
  dj : ∀ i j b, FE i b → FE j b → i = j
  rel : ∀ i d, ρ[i]? = some (some d) → ∃ v, σ[i]? = some (some v) ∧ Rl true K P H d v (FE i)
  len : ρ.length = σ.length
  tab : LamX.Tabs TabC.T H
/-- a step of the heap: what is not in U stays; what is given up (P) or in use behind it (U') was in U or is new -/
structure Tr (P : AS) (H : Hp) (U : AS) (P' : AS) (H' : Hp) (U' : AS) : Prop where
  frame : ∀ b o, H b = some o → ¬ U b → NT o → H' b = some o
  mono : ∀ b, P b → P' b
  back : ∀ b, P' b → P b ∨ U b ∨ H b = none
  sub : ∀ b, U' b → U b ∨ H b = none
  alive : ∀ b, H b ≠ none → H' b ≠ none
structure Tmp (K : PySem.W.Frag) (P : AS) (H : Hp) (FE : FP) (d : D) (v : V) (F : AS) : Prop where
  rl : Rl true K P H d v F
  own : ∀ b, F b → H b ≠ none ∧ ¬ P b ∧ ¬ U FE b
structure Tmps (K : PySem.W.Frag) (P : AS) (H : Hp) (FE : FP) (ds : List D) (vs : List V) (F : AS) : Prop where
  rl : Rls true K P H ds vs F
  own : ∀ b, F b → H b ≠ none ∧ ¬ P b ∧ ¬ U FE b
section
variable [TabC] {K : PySem.W.Frag} {P P' P1 P2 : AS} {H H' H1 H2 : Hp} {U0 U' U1 U2 F F1 : AS} {FE FE1 FE2 : FP} {ρ ρ1 : Ev} {σ : L2.St} {d : D} {v : V} {ds : List D} {vs : List V}
theorem Tr.refl : Tr P H U0 P H U0 := ⟨fun _ _ e _ _ => e, fun _ q => q, fun _ q => .inl q, fun _ q => .inl q, fun _ q => q⟩
theorem Tr.seq (a : Tr P H U0 P1 H1 (fun b => U1 b ∨ F1 b)) (c : Tr P1 H1 U1 P2 H2 U2) : Tr P H U0 P2 H2 (fun b => U2 b ∨ F1 b) where
  frame := fun b o e n nt => c.frame b o (a.frame b o e n nt) (fun q => (a.sub b (.inl q)).elim n (fun z => by rw [e] at z; cases z)) nt
  mono := fun b q => c.mono b (a.mono b q)
  back := fun b q => by
    rcases c.back b q with q | q | q
    · exact a.back b q
    · exact (a.sub b (.inl q)).elim (fun z => .inr (.inl z)) fun z => .inr (.inr z)
    · refine .inr (.inr ?_)
      cases e : H b with
      | none => rfl
      | some o => exact absurd q (a.alive b (by rw [e]; simp))
  sub := fun b q => by
    rcases q with q | q
    · rcases c.sub b q with q | q
      · exact a.sub b (.inl q)
      · refine .inr ?_
        cases e : H b with
        | none => rfl
        | some o => exact absurd q (a.alive b (by rw [e]; simp))
    · exact a.sub b (.inr q)
  alive := fun b q => c.alive b (a.alive b q)
theorem Tr.less (a : Tr P H U0 P1 H1 U1) (h : ∀ b, U2 b → U1 b) : Tr P H U0 P1 H1 U2 := ⟨a.frame, a.mono, a.back, fun b q => a.sub b (h b q), a.alive⟩
theorem Tr.trans (a : Tr P H U0 P1 H1 U1) (c : Tr P1 H1 U1 P2 H2 U2) : Tr P H U0 P2 H2 U2 :=
  (Tr.seq (F1 := fun _ => False) (a.less fun b q => q.elim id False.elim) c).less fun b q => .inl q
/-- what is at hand stays through a step that does not own it -/
theorem Tmp.step (t : Tmp K P1 H1 FE1 d v F1) (S : Stt K P1 H1 ρ1 σ FE1) (c : Tr P1 H1 (U FE1) P2 H2 (fun b => U FE2 b ∨ F b)) : Tmp K P2 H2 FE2 d v F1 ∧ ∀ b, F1 b → F b → False := by
  refine ⟨⟨rl_mono t.rl c.mono (fun b o e q => c.frame b o e fun ⟨i, z⟩ => ?_) fun _ q => q, fun b q => ?_⟩, fun b q z => ?_⟩
  · rcases q rfl with q | q
    · exact (S.fin i b z).2 q
    · exact (t.own b q).2.2 ⟨i, z⟩
  · obtain ⟨h1, h2, h3⟩ := t.own b q
    exact ⟨c.alive b h1, fun z => (c.back b z).elim h2 (fun z => z.elim h3 h1), fun z => (c.sub b (.inl z)).elim h3 h1⟩
  · obtain ⟨h1, h2, h3⟩ := t.own b q
    exact (c.sub b (.inr z)).elim h3 h1
theorem Tmps.step (t : Tmps K P1 H1 FE1 ds vs F1) (S : Stt K P1 H1 ρ1 σ FE1) (c : Tr P1 H1 (U FE1) P2 H2 (fun b => U FE2 b ∨ F b)) : Tmps K P2 H2 FE2 ds vs F1 ∧ ∀ b, F1 b → F b → False := by
  refine ⟨⟨rls_mono t.rl c.mono (fun b o e q => c.frame b o e fun ⟨i, z⟩ => ?_) fun _ q => q, fun b q => ?_⟩, fun b q z => ?_⟩
  · rcases q rfl with q | q
    · exact (S.fin i b z).2 q
    · exact (t.own b q).2.2 ⟨i, z⟩
  · obtain ⟨h1, h2, h3⟩ := t.own b q
    exact ⟨c.alive b h1, fun z => (c.back b z).elim h2 (fun z => z.elim h3 h1), fun z => (c.sub b (.inl z)).elim h3 h1⟩
  · obtain ⟨h1, h2, h3⟩ := t.own b q
    exact (c.sub b (.inr z)).elim h3 h1
/-- only new things come -/
structure New [TabC] (P : AS) (H : Hp) (P' : AS) (H' : Hp) (F : AS) : Prop where
  same : ∀ b o, H b = some o → NT o → H' b = some o
  alive : ∀ b, H b ≠ none → H' b ≠ none
  tab : LamX.Tabs TabC.T H → LamX.Tabs TabC.T H'
  mono : ∀ b, P b → P' b
  back : ∀ b, P' b → P b ∨ (H b = none ∧ H' b ≠ none)
  own : ∀ b, F b → H b = none ∧ H' b ≠ none ∧ ¬ P' b
theorem New.refl : New P H P H (fun _ => False) := ⟨fun _ _ e _ => e, fun _ q => q, id, fun _ q => q, fun _ q => .inl q, fun _ q => q.elim⟩
theorem New.less (n : New P H P' H' F) (h : ∀ b, F1 b → F b) : New P H P' H' F1 := ⟨n.same, n.alive, n.tab, n.mono, n.back, fun b q => n.own b (h b q)⟩
theorem New.stt (n : New P H P' H' F) (S : Stt K P H ρ σ FE) : Stt K P' H' ρ σ FE where
  pin := fun b q => by
    rcases n.back b q with z | z
    · exact n.alive b (S.pin b z)
    · exact z.2
  fin := fun i b q => by
    obtain ⟨h1, h2⟩ := S.fin i b q
    exact ⟨n.alive b h1, fun z => (n.back b z).elim h2 fun z => h1 z.1⟩
  dj := S.dj
  rel := fun i d e => by
    obtain ⟨v, e1, r⟩ := S.rel i d e
    exact ⟨v, e1, rl_mono r n.mono (fun b o e _ => n.same b o e) fun _ q => q⟩
  len := S.len
  tab := n.tab S.tab
theorem New.tr (n : New P H P' H' F) : Tr P H U0 P' H' (fun b => U0 b ∨ F b) where
  frame := fun b o e _ => n.same b o e
  mono := n.mono
  back := fun b q => (n.back b q).imp id fun z => .inr z.1
  sub := fun b q => q.imp id fun z => (n.own b z).1
  alive := n.alive
theorem New.tmp (n : New P H P' H' F) (S : Stt K P H ρ σ FE) (r : Rl true K P' H' d v F) : Tmp K P' H' FE d v F :=
  ⟨r, fun b q => ⟨(n.own b q).2.1, (n.own b q).2.2, fun ⟨i, z⟩ => (S.fin i b z).1 (n.own b q).1⟩⟩
theorem New.trans {P3 : AS} {H3 : Hp} {F3 : AS} (n : New P H P1 H1 F1) (m : New P1 H1 P3 H3 F3) : New P H P3 H3 (fun b => F1 b ∨ F3 b) where
  same := fun b o e nt => m.same b o (n.same b o e nt) nt
  alive := fun b q => m.alive b (n.alive b q)
  tab := fun t => m.tab (n.tab t)
  mono := fun b q => m.mono b (n.mono b q)
  back := fun b q => by
    rcases m.back b q with z | z
    · exact (n.back b z).imp id fun w => ⟨w.1, m.alive b w.2⟩
    · refine .inr ⟨?_, z.2⟩
      cases e : H b with
      | none => rfl
      | some o => exact absurd z.1 (n.alive b (by rw [e]; simp))
  own := fun b q => by
    rcases q with q | q
    · obtain ⟨h1, h2, h3⟩ := n.own b q
      exact ⟨h1, m.alive b h2, fun z => (m.back b z).elim h3 fun w => h2 w.1⟩
    · obtain ⟨h1, h2, h3⟩ := m.own b q
      refine ⟨?_, h2, h3⟩
      cases e : H b with
      | none => rfl
      | some o => exact absurd h1 (n.alive b (by rw [e]; simp))
theorem alive_upd {p : Addr} {o : HO} (b : Addr) (h : H b ≠ none) : upd H p o b ≠ none := by
  unfold upd
  split
  · simp
  · exact h
/-- a new list -/
theorem New.lst {p : Addr} {o : HO} (hp : H p = none) (pin : ∀ b, P b → H b ≠ none) : New P H P (upd H p o) (fun b => b = p) where
  same := fun b u e _ => by rw [upd_ne (ne_of_none e hp)]; exact e
  alive := alive_upd
  tab := fun t => t.ext fun b u e => by rw [upd_ne (ne_of_none e hp)]; exact e
  mono := fun _ q => q
  back := fun _ q => .inl q
  own := fun b q => by
    subst q
    exact ⟨hp, by rw [upd_same]; simp, fun z => pin _ z hp⟩
/-- a new thing given up at once -/
theorem New.tup {p : Addr} {o : HO} (hp : H p = none) : New P H (fun b => P b ∨ b = p) (upd H p o) (fun _ => False) where
  same := fun b u e _ => by rw [upd_ne (ne_of_none e hp)]; exact e
  alive := alive_upd
  tab := fun t => t.ext fun b u e => by rw [upd_ne (ne_of_none e hp)]; exact e
  mono := fun _ q => .inl q
  back := fun b q => q.imp id fun z => by subst z; exact ⟨hp, by rw [upd_same]; simp⟩
  own := fun b q => q.elim
/-- the things at hand are given up -/
theorem Stt.give (S : Stt K P H ρ σ FE) (h : ∀ b, F b → H b ≠ none ∧ ¬ U FE b) : Stt K (fun b => P b ∨ F b) H ρ σ FE where
  pin := fun b q => q.elim (S.pin b) fun z => (h b z).1
  fin := fun i b q => ⟨(S.fin i b q).1, fun z => z.elim (S.fin i b q).2 fun z => (h b z).2 ⟨i, q⟩⟩
  dj := S.dj
  rel := fun i d e => by
    obtain ⟨v, e1, r⟩ := S.rel i d e
    exact ⟨v, e1, rl_mono r (fun _ q => .inl q) (fun b o e _ _ => e) fun _ q => q⟩
  len := S.len
  tab := S.tab
theorem Tr.give (a : Tr P H U0 P1 H1 (fun b => U1 b ∨ F b)) : Tr P H U0 (fun b => P1 b ∨ F b) H1 U1 where
  frame := a.frame
  mono := fun b q => .inl (a.mono b q)
  back := fun b q => q.elim (a.back b) fun z => (a.sub b (.inr z)).elim (fun w => .inr (.inl w)) fun w => .inr (.inr w)
  sub := fun b q => a.sub b (.inl q)
  alive := a.alive
/-- a slot is written -/
theorem Stt.set (S : Stt K P H ρ σ FE) (t : Tmp K P H FE d v F) (i : Nat) : Stt K P H (ρ.set i (some d)) (σ.set i (some v)) (fun j => if j = i then F else FE j) where
  pin := S.pin
  fin := fun j b q => by
    by_cases e : j = i
    · rw [if_pos e] at q
      exact ⟨(t.own b q).1, (t.own b q).2.1⟩
    · rw [if_neg e] at q
      exact S.fin j b q
  dj := fun j k b q r => by
    by_cases e : j = i <;> by_cases e' : k = i
    · rw [e, e']
    · rw [if_pos e] at q; rw [if_neg e'] at r
      exact ((t.own b q).2.2 ⟨k, r⟩).elim
    · rw [if_neg e] at q; rw [if_pos e'] at r
      exact ((t.own b r).2.2 ⟨j, q⟩).elim
    · rw [if_neg e] at q; rw [if_neg e'] at r
      exact S.dj j k b q r
  rel := fun j d' e => by
    by_cases h : j = i
    · subst h
      have hl : j < ρ.length := by
        have := (List.getElem?_eq_some_iff.mp e).1
        simpa using this
      rw [List.getElem?_set_self hl] at e
      cases e
      refine ⟨v, by rw [List.getElem?_set_self (by rw [← S.len]; exact hl)], ?_⟩
      rw [if_pos rfl]
      exact t.rl
    · rw [List.getElem?_set_ne (Ne.symm h)] at e
      obtain ⟨w, e1, r⟩ := S.rel j d' e
      refine ⟨w, by rw [List.getElem?_set_ne (Ne.symm h)]; exact e1, ?_⟩
      rw [if_neg h]
      exact r
  len := by simpa using S.len
  tab := S.tab
theorem Stt.set_sub (i : Nat) (b : Addr) (q : U (fun j => if j = i then F else FE j) b) : U FE b ∨ F b := by
  obtain ⟨j, q⟩ := q
  by_cases e : j = i
  · rw [if_pos e] at q; exact .inr q
  · rw [if_neg e] at q; exact .inl ⟨j, q⟩
end
end Hap
namespace Hap
open PySem PySem.Spec PyProof.Rows L2
variable [TabC]
abbrev RXR := DX → AS → Hp → Value → Option Addr → Prop
abbrev E_ : AS := fun _ => False
def tE (K : PySem.W.Frag) (RX : RXR) (W : WX) (f : Ev → R D) : TE := fun σ H Q => ∃ P ρ FE, Stt K P H ρ σ FE ∧ match f ρ with
  | .ok d ρ' => ∀ v P' H' FE' F, Stt K P' H' ρ' σ FE' → Tmp K P' H' FE' d v F → Tr P H (U FE) P' H' (fun b => U FE' b ∨ F b) → Q v H'
  | .exc x ρ' => ∀ cls dx P' H' FE', Stt K P' H' ρ' σ FE' → Tr P H (U FE) P' H' (U FE') → RX x P' H' cls dx → W cls dx σ H'
  | .stk => False
def tV (K : PySem.W.Frag) (f : Ev → Option D) : TE := fun σ H Q => ∃ P ρ FE, Stt K P H ρ σ FE ∧ match f ρ with
  | some d => ∀ v P' H', New P H P' H' E_ → Rl false K P' H' d v E_ → Q v H'
  | none => False
def tA (K : PySem.W.Frag) (RX : RXR) (W : WX) (f : Ev → R (List D)) : TA := fun σ H Q => ∃ P ρ FE, Stt K P H ρ σ FE ∧ match f ρ with
  | .ok ds ρ' => ∀ vs P' H' FE' F, Stt K P' H' ρ' σ FE' → Tmps K P' H' FE' ds vs F → Tr P H (U FE) P' H' (fun b => U FE' b ∨ F b) → Q vs H'
  | .exc x ρ' => ∀ cls dx P' H' FE', Stt K P' H' ρ' σ FE' → Tr P H (U FE) P' H' (U FE') → RX x P' H' cls dx → W cls dx σ H'
  | .stk => False
def tAV (K : PySem.W.Frag) (f : Ev → Option (List D)) : TA := fun σ H Q => ∃ P ρ FE, Stt K P H ρ σ FE ∧ match f ρ with
  | some ds => ∀ vs P' H', New P H P' H' E_ → Rls false K P' H' ds vs E_ → Q vs H'
  | none => False
def tT (K : PySem.W.Frag) (RX : RXR) (W : WX) (f : Ev → R Bool) : TT := fun σ H Q => ∃ P ρ FE, Stt K P H ρ σ FE ∧ match f ρ with
  | .ok b ρ' => ∀ P' H' FE', Stt K P' H' ρ' σ FE' → Tr P H (U FE) P' H' (U FE') → Q b H'
  | .exc x ρ' => ∀ cls dx P' H' FE', Stt K P' H' ρ' σ FE' → Tr P H (U FE) P' H' (U FE') → RX x P' H' cls dx → W cls dx σ H'
  | .stk => False
abbrev DE (X : Cx) (RX : RXR) (W : WX) (e : Expr) (f : Ev → R D) : Prop := PE X e (tE X.K RX W f)
abbrev DV (X : Cx) (e : Expr) (f : Ev → Option D) : Prop := PE X e (tV X.K f)
abbrev DA (X : Cx) (RX : RXR) (W : WX) (es : List Expr) (f : Ev → R (List D)) : Prop := PA X es (tA X.K RX W f)
abbrev DAV (X : Cx) (es : List Expr) (f : Ev → Option (List D)) : Prop := PA X es (tAV X.K f)
abbrev DT (X : Cx) (RX : RXR) (W : WX) (e : Expr) (f : Ev → R Bool) : Prop := PT X e (tT X.K RX W f)
omit [TabC] in
theorem pe_imp {X : Cx} {e : Expr} {t t' : TE} (h : PE X e t) (w : ∀ σ H Q, t' σ H Q → t σ H Q) : PE X e t' := ⟨fun pins s σ H Q I q => h.run pins s σ H Q I (w _ _ _ q)⟩
omit [TabC] in
theorem pt_imp {X : Cx} {e : Expr} {t t' : TT} (h : PT X e t) (w : ∀ σ H Q, t' σ H Q → t σ H Q) : PT X e t' := ⟨fun pins s σ H Q I q => h.run pins s σ H Q I (w _ _ _ q)⟩
omit [TabC] in
theorem pw_imp {X : Cx} {e : Expr} {t t' : TT} (h : PW X e t) (w : ∀ σ H Q, t' σ H Q → t σ H Q) : PW X e t' := ⟨fun wh pins s σ H Q I q => h.run wh pins s σ H Q I (w _ _ _ q)⟩
omit [TabC] in
theorem pa_imp {X : Cx} {e : List Expr} {t t' : TA} (h : PA X e t) (w : ∀ σ H Q, t' σ H Q → t σ H Q) : PA X e t' := ⟨fun pos pins s σ H Q I q => h.run pos pins s σ H Q I (w _ _ _ q)⟩
omit [TabC] in
theorem ps_imp {X : Cx} {e : Stmt} {t t' : TS} (h : PS X e t) (w : ∀ D σ H, t' D σ H → t D σ H) : PS X e t' := ⟨fun pins s σ H D I q => h.run pins s σ H D I (w _ _ _ q)⟩
omit [TabC] in
theorem pss_imp {X : Cx} {e : List Stmt} {t t' : TS} (h : PSs X e t) (w : ∀ D σ H, t' D σ H → t D σ H) : PSs X e t' := ⟨fun pins s σ H D I q => h.run pins s σ H D I (w _ _ _ q)⟩
def R.bind {α β : Type} (x : R α) (f : α → Ev → R β) : R β := match x with
  | .ok a ρ => f a ρ
  | .exc x ρ => .exc x ρ
  | .stk => .stk
def R.of {α : Type} (x : Option α) (ρ : Ev) : R α := match x with
  | some a => .ok a ρ
  | none => .stk
def VOp1 (K : PySem.W.Frag) (r : V → Hp → VK → Prop) (g : D → Option D) : Prop := ∀ (P : AS) (H : Hp) (d : D) (v : V) (x : D) (Q : VK), (∀ b, P b → H b ≠ none) → Rl false K P H d v E_ → g d = some x →
  (∀ u P' H' F, New P H P' H' F → Rl true K P' H' x u F → Q u H') → r v H Q
def VOp2 (K : PySem.W.Frag) (r : R2) (g : D → D → Option D) : Prop := ∀ (P : AS) (H : Hp) (d e : D) (v w : V) (x : D) (Q : VK), (∀ b, P b → H b ≠ none) → Rl false K P H d v E_ → Rl false K P H e w E_ → g d e = some x →
  (∀ u P' H' F, New P H P' H' F → Rl true K P' H' x u F → Q u H') → r v w H Q
def VOpN (K : PySem.W.Frag) (r : List V → Hp → VK → Prop) (g : List D → Option D) : Prop := ∀ (P : AS) (H : Hp) (ds : List D) (vs : List V) (x : D) (Q : VK), (∀ b, P b → H b ≠ none) → Rls false K P H ds vs E_ → g ds = some x →
  (∀ u P' H' F, New P H P' H' F → Rl true K P' H' x u F → Q u H') → r vs H Q
def fOp1 (g : D → Option D) (f : Ev → R D) : Ev → R D := fun ρ => (f ρ).bind fun d ρ' => R.of (g d) ρ'
def fOp2 (g : D → D → Option D) (f h : Ev → R D) : Ev → R D := fun ρ => (f ρ).bind fun d ρ1 => (h ρ1).bind fun e ρ2 => R.of (g d e) ρ2
def fOp2V (g : D → D → Option D) (f : Ev → R D) (h : Ev → Option D) : Ev → R D := fun ρ => (f ρ).bind fun d ρ1 => R.of ((h ρ1).bind (g d)) ρ1
def fOpN (g : List D → Option D) (f : Ev → R (List D)) : Ev → R D := fun ρ => (f ρ).bind fun ds ρ' => R.of (g ds) ρ'
def vOp1 (g : D → Option D) (f : Ev → Option D) : Ev → Option D := fun ρ => (f ρ).bind g
def vOp2 (g : D → D → Option D) (f h : Ev → Option D) : Ev → Option D := fun ρ => (f ρ).bind fun d => (h ρ).bind (g d)
def vOpN (g : List D → Option D) (f : Ev → Option (List D)) : Ev → Option D := fun ρ => (f ρ).bind g
section
variable {K : PySem.W.Frag} {RX : RXR} {W : WX} {σ : L2.St} {H : Hp} {Q : VK}
theorem Tr.less' {P P1 : AS} {H H1 : Hp} {U0 U1 F : AS} (a : Tr P H U0 P1 H1 (fun b => U1 b ∨ F b)) : Tr P H U0 P1 H1 U1 := a.less fun _ q => .inl q
theorem e_op1 {r : V → Hp → VK → Prop} {g : D → Option D} {f : Ev → R D} (hv : VOp1 K r g) (h : tE K RX W (fOp1 g f) σ H Q) : tE K RX W f σ H (fun v H1 => r v H1 Q) := by
  obtain ⟨P, ρ, FE, S, h⟩ := h
  refine ⟨P, ρ, FE, S, ?_⟩
  unfold fOp1 at h
  cases e : f ρ with
  | ok d ρ1 =>
    simp only [e, R.bind] at h
    intro v P1 H1 FE1 F1 S1 T1 t1
    cases e2 : g d with
    | none => simp only [e2, R.of] at h
    | some x =>
      simp only [e2, R.of] at h
      exact hv P1 H1 d v x Q S1.pin (rl_view T1.rl) e2 fun u P2 H2 F2 n r => h u P2 H2 FE1 F2 (n.stt S1) (n.tmp S1 r) (t1.less'.trans n.tr)
  | exc x ρ1 =>
    simp only [e, R.bind] at h
    exact h
  | stk =>
    simp only [e, R.bind] at h
theorem e_opN {r : List V → Hp → VK → Prop} {g : List D → Option D} {f : Ev → R (List D)} (hv : VOpN K r g) (h : tE K RX W (fOpN g f) σ H Q) : tA K RX W f σ H (fun v H1 => r v H1 Q) := by
  obtain ⟨P, ρ, FE, S, h⟩ := h
  refine ⟨P, ρ, FE, S, ?_⟩
  unfold fOpN at h
  cases e : f ρ with
  | ok d ρ1 =>
    simp only [e, R.bind] at h
    intro v P1 H1 FE1 F1 S1 T1 t1
    cases e2 : g d with
    | none => simp only [e2, R.of] at h
    | some x =>
      simp only [e2, R.of] at h
      exact hv P1 H1 d v x Q S1.pin (rls_view T1.rl) e2 fun u P2 H2 F2 n r => h u P2 H2 FE1 F2 (n.stt S1) (n.tmp S1 r) (t1.less'.trans n.tr)
  | exc x ρ1 =>
    simp only [e, R.bind] at h
    exact h
  | stk =>
    simp only [e, R.bind] at h
theorem e_op2 {r : R2} {g : D → D → Option D} {f k : Ev → R D} (hv : VOp2 K r g) (h : tE K RX W (fOp2 g f k) σ H Q) : tE K RX W f σ H (fun v H1 => tE K RX W k σ H1 fun w H2 => r v w H2 Q) := by
  obtain ⟨P, ρ, FE, S, h⟩ := h
  refine ⟨P, ρ, FE, S, ?_⟩
  unfold fOp2 at h
  cases e : f ρ with
  | ok d ρ1 =>
    simp only [e, R.bind] at h
    intro v P1 H1 FE1 F1 S1 T1 t1
    refine ⟨P1, ρ1, FE1, S1, ?_⟩
    cases e1 : k ρ1 with
    | ok d' ρ2 =>
      simp only [e1] at h
      intro w P2 H2 FE2 F2 S2 T2 t2
      cases e2 : g d d' with
      | none => simp only [e2, R.of] at h
      | some x =>
        simp only [e2, R.of] at h
        have T1' := (T1.step S1 t2).1
        exact hv P2 H2 d d' v w x Q S2.pin (rl_view T1'.rl) (rl_view T2.rl) e2 fun u P3 H3 F3 n r => h u P3 H3 FE2 F3 (n.stt S2) (n.tmp S2 r) ((t1.less'.trans t2.less').trans n.tr)
    | exc x ρ2 =>
      simp only [e1] at h
      intro cls dx P2 H2 FE2 S2 t2
      exact h cls dx P2 H2 FE2 S2 (t1.less'.trans t2)
    | stk => simp only [e1] at h
  | exc x ρ1 =>
    simp only [e, R.bind] at h
    exact h
  | stk =>
    simp only [e, R.bind] at h
theorem e_op2V {r : R2} {g : D → D → Option D} {f : Ev → R D} {k : Ev → Option D} (hv : VOp2 K r g) (h : tE K RX W (fOp2V g f k) σ H Q) : tE K RX W f σ H (fun v H1 => tV K k σ H1 fun w H2 => r v w H2 Q) := by
  obtain ⟨P, ρ, FE, S, h⟩ := h
  refine ⟨P, ρ, FE, S, ?_⟩
  unfold fOp2V at h
  cases e : f ρ with
  | ok d ρ1 =>
    simp only [e, R.bind] at h
    intro v P1 H1 FE1 F1 S1 T1 t1
    refine ⟨P1, ρ1, FE1, S1, ?_⟩
    cases e1 : k ρ1 with
    | none => simp only [e1, Option.bind, R.of] at h
    | some d' =>
      simp only [e1, Option.bind] at h
      intro w P2 H2 n2 r2
      cases e2 : g d d' with
      | none => simp only [e2, R.of] at h
      | some x =>
        simp only [e2, R.of] at h
        have r1 : Rl false K P2 H2 d v E_ := rl_mono (rl_view T1.rl) n2.mono (fun b o e _ => n2.same b o e) (fun _ q => q)
        exact hv P2 H2 d d' v w x Q (n2.stt S1).pin r1 r2 e2 fun u P3 H3 F3 n r => h u P3 H3 FE1 F3 (n.stt (n2.stt S1)) (n.tmp (n2.stt S1) r) ((t1.less'.trans n2.tr.less').trans n.tr)
  | exc x ρ1 =>
    simp only [e, R.bind] at h
    exact h
  | stk =>
    simp only [e, R.bind] at h
theorem New.less_ {P P' : AS} {H H' : Hp} {F : AS} (n : New P H P' H' F) : New P H P' H' E_ := n.less fun _ q => q.elim
theorem New.trans_ {P P' P'' : AS} {H H' H'' : Hp} (n : New P H P' H' E_) (m : New P' H' P'' H'' E_) : New P H P'' H'' E_ := (n.trans m).less_
theorem v_op1 {r : V → Hp → VK → Prop} {g : D → Option D} {f : Ev → Option D} (hv : VOp1 K r g) (h : tV K (vOp1 g f) σ H Q) : tV K f σ H (fun v H1 => r v H1 Q) := by
  obtain ⟨P, ρ, FE, S, h⟩ := h
  refine ⟨P, ρ, FE, S, ?_⟩
  unfold vOp1 at h
  cases e : f ρ with
  | none => simp only [e, Option.bind] at h
  | some d =>
    simp only [e, Option.bind] at h
    intro v P1 H1 n1 r1
    cases e2 : g d with
    | none => simp only [e2] at h
    | some x =>
      simp only [e2] at h
      exact hv P1 H1 d v x Q (n1.stt S).pin r1 e2 fun u P2 H2 F2 n r => h u P2 H2 (n1.trans_ n.less_) (rl_view r)
theorem v_opN {r : List V → Hp → VK → Prop} {g : List D → Option D} {f : Ev → Option (List D)} (hv : VOpN K r g) (h : tV K (vOpN g f) σ H Q) : tAV K f σ H (fun v H1 => r v H1 Q) := by
  obtain ⟨P, ρ, FE, S, h⟩ := h
  refine ⟨P, ρ, FE, S, ?_⟩
  unfold vOpN at h
  cases e : f ρ with
  | none => simp only [e, Option.bind] at h
  | some d =>
    simp only [e, Option.bind] at h
    intro v P1 H1 n1 r1
    cases e2 : g d with
    | none => simp only [e2] at h
    | some x =>
      simp only [e2] at h
      exact hv P1 H1 d v x Q (n1.stt S).pin r1 e2 fun u P2 H2 F2 n r => h u P2 H2 (n1.trans_ n.less_) (rl_view r)
theorem v_op2 {r : R2} {g : D → D → Option D} {f k : Ev → Option D} (hv : VOp2 K r g) (h : tV K (vOp2 g f k) σ H Q) : tV K f σ H (fun v H1 => tV K k σ H1 fun w H2 => r v w H2 Q) := by
  obtain ⟨P, ρ, FE, S, h⟩ := h
  refine ⟨P, ρ, FE, S, ?_⟩
  unfold vOp2 at h
  cases e : f ρ with
  | none => simp only [e, Option.bind] at h
  | some d =>
    simp only [e, Option.bind] at h
    intro v P1 H1 n1 r1
    refine ⟨P1, ρ, FE, n1.stt S, ?_⟩
    cases e1 : k ρ with
    | none => simp only [e1] at h
    | some d' =>
      simp only [e1] at h
      intro w P2 H2 n2 r2
      cases e2 : g d d' with
      | none => simp only [e2] at h
      | some x =>
        simp only [e2] at h
        have r1' : Rl false K P2 H2 d v E_ := rl_mono r1 n2.mono (fun b o e _ => n2.same b o e) (fun _ q => q)
        exact hv P2 H2 d d' v w x Q (n2.stt (n1.stt S)).pin r1' r2 e2 fun u P3 H3 F3 n r => h u P3 H3 ((n1.trans_ n2).trans_ n.less_) (rl_view r)
end
def fVar (i : Nat) : Ev → R D := fun ρ => match ρ[i]? with
  | some (some d) => .ok (frz d) (ρ.set i (some (frz d)))
  | _ => .stk
def vVar (i : Nat) : Ev → Option D := fun ρ => match ρ[i]? with
  | some (some d) => some d
  | _ => none
/-- what is seen and is no one's own may be taken -/
def fI (f : Ev → Option D) : Ev → R D := fun ρ => match f ρ with
  | some d => if isImm d = true then .ok d ρ else .stk
  | none => .stk
def fNil : Ev → R (List D) := fun ρ => .ok [] ρ
def fCons (f : Ev → R D) (g : Ev → R (List D)) : Ev → R (List D) := fun ρ => (f ρ).bind fun d ρ1 => (g ρ1).bind fun ds ρ2 => .ok (d :: ds) ρ2
def vNil : Ev → Option (List D) := fun _ => some []
def vCons (f : Ev → Option D) (g : Ev → Option (List D)) : Ev → Option (List D) := fun ρ => (f ρ).bind fun d => (g ρ).bind fun ds => some (d :: ds)
section
variable {X : Cx} {RX : RXR} {W : WX}
theorem de_var {i : Nat} {x : Str} {pos : Pos} (h : PE X (.Name x pos) (tVar i)) : DE X RX W (.Name x pos) (fVar i) := by
  refine pe_imp h fun σ H Q q => ?_
  obtain ⟨P, ρ, FE, S, q⟩ := q
  unfold fVar at q
  cases e : ρ[i]? with
  | none => simp only [e] at q
  | some o =>
    cases o with
    | none => simp only [e] at q
    | some d =>
      simp only [e] at q
      obtain ⟨v, ev, r⟩ := S.rel i d e
      refine ⟨v, ev, ?_⟩
      have hF : ∀ b, FE i b → H b ≠ none := fun b z => (S.fin i b z).1
      refine q v (fun b => P b ∨ FE i b) H (fun j b => j ≠ i ∧ FE j b) E_ ⟨fun b z => z.elim (S.pin b) (hF b), fun j b z => ⟨(S.fin j b z.2).1, fun w => w.elim (S.fin j b z.2).2 fun w => z.1 (S.dj j i b z.2 w)⟩, fun j k b z w => S.dj j k b z.2 w.2, fun j d' e' => ?_, by simpa using S.len, S.tab⟩
        ⟨rl_frz r (fun b z => .inl z) fun b z => .inr z, fun b z => z.elim⟩ ⟨fun b o z _ _ => z, fun b z => .inl z, fun b z => z.imp id fun w => .inl ⟨i, w⟩, fun b z => z.elim (fun ⟨j, w⟩ => .inl ⟨j, w.2⟩) False.elim, fun b z => z⟩
      by_cases hj : j = i
      · subst hj
        have hl : j < ρ.length := (List.getElem?_eq_some_iff.mp e).1
        rw [List.getElem?_set_self hl] at e'
        cases e'
        exact ⟨v, ev, rl_frz r (fun b z => .inl z) fun b z => .inr z⟩
      · rw [List.getElem?_set_ne (Ne.symm hj)] at e'
        obtain ⟨w, e1, r1⟩ := S.rel j d' e'
        exact ⟨w, e1, rl_mono r1 (fun b z => .inl z) (fun b o z _ _ => z) fun b z => ⟨hj, z⟩⟩
theorem dv_var {i : Nat} {x : Str} {pos : Pos} (h : PE X (.Name x pos) (tVar i)) : DV X (.Name x pos) (vVar i) := by
  refine pe_imp h fun σ H Q q => ?_
  obtain ⟨P, ρ, FE, S, q⟩ := q
  unfold vVar at q
  cases e : ρ[i]? with
  | none => simp only [e] at q
  | some o =>
    cases o with
    | none => simp only [e] at q
    | some d =>
      simp only [e] at q
      obtain ⟨v, ev, r⟩ := S.rel i d e
      exact ⟨v, ev, q v P H New.refl (rl_view r)⟩
theorem de_ofV {e : Expr} {f : Ev → Option D} (h : DV X e f) : DE X RX W e (fI f) := by
  refine pe_imp h fun σ H Q q => ?_
  obtain ⟨P, ρ, FE, S, q⟩ := q
  unfold fI at q
  refine ⟨P, ρ, FE, S, ?_⟩
  cases e : f ρ with
  | none => simp only [e] at q
  | some d =>
    simp only [e] at q
    intro v P' H' n r
    by_cases i : isImm d = true
    · simp only [if_pos i] at q
      exact q v P' H' FE E_ (n.stt S) ⟨rl_imm r i, fun b z => z.elim⟩ (n.tr)
    · simp only [if_neg i] at q
theorem de_con {e : Expr} {v : V} {d : D} (h : PE X e (tC v)) (r : ∀ P H, Rl true X.K P H d v E_) : DE X RX W e (fun ρ => .ok d ρ) := by
  refine pe_imp h fun σ H Q q => ?_
  obtain ⟨P, ρ, FE, S, q⟩ := q
  exact q v P H FE E_ S ⟨r P H, fun b z => z.elim⟩ (Tr.refl.less fun b z => z.elim id False.elim)
theorem dv_con {e : Expr} {v : V} {d : D} (h : PE X e (tC v)) (r : ∀ P H, Rl true X.K P H d v E_) : DV X e (fun _ => some d) := by
  refine pe_imp h fun σ H Q q => ?_
  obtain ⟨P, ρ, FE, S, q⟩ := q
  exact q v P H New.refl (rl_view (r P H))
theorem da_nil : DA X RX W [] fNil := by
  refine pa_imp pa_nil fun σ H Q q => ?_
  obtain ⟨P, ρ, FE, S, q⟩ := q
  exact q [] P H FE E_ S ⟨.nil, fun b z => z.elim⟩ (Tr.refl.less fun b z => z.elim id False.elim)
theorem dav_nil : DAV X [] vNil := by
  refine pa_imp pa_nil fun σ H Q q => ?_
  obtain ⟨P, ρ, FE, S, q⟩ := q
  exact q [] P H New.refl .nil
theorem da_cons {e : Expr} {es : List Expr} {f : Ev → R D} {g : Ev → R (List D)} (h : DE X RX W e f) (t : DA X RX W es g) (hs : starEach (e :: es) X.env = (false, eval e X.env) :: starEach es X.env := by rfl) : DA X RX W (e :: es) (fCons f g) := by
  refine pa_imp (pa_cons h t hs) fun σ H Q q => ?_
  obtain ⟨P, ρ, FE, S, q⟩ := q
  refine ⟨P, ρ, FE, S, ?_⟩
  unfold fCons at q
  cases e : f ρ with
  | ok d ρ1 =>
    simp only [e, R.bind] at q
    intro v P1 H1 FE1 F1 S1 T1 t1
    refine ⟨P1, ρ1, FE1, S1, ?_⟩
    cases e1 : g ρ1 with
    | ok ds ρ2 =>
      simp only [e1] at q
      intro vs P2 H2 FE2 F2 S2 T2 t2
      obtain ⟨T1', dj⟩ := T1.step S1 t2
      refine q (v :: vs) P2 H2 FE2 (fun b => F1 b ∨ F2 b) S2 ⟨.cons T1'.rl T2.rl (fun b z => .inl z) (fun b z => .inr z) (fun b z w => dj b z w), fun b z => z.elim (T1'.own b) (T2.own b)⟩ ((t1.seq t2).less fun b z => ?_)
      rcases z with z | z | z
      · exact .inl (.inl z)
      · exact .inr z
      · exact .inl (.inr z)
    | exc x ρ2 =>
      simp only [e1] at q
      intro cls dx P2 H2 FE2 S2 t2
      exact q cls dx P2 H2 FE2 S2 (t1.less'.trans t2)
    | stk => simp only [e1] at q
  | exc x ρ1 =>
    simp only [e, R.bind] at q
    exact q
  | stk => simp only [e, R.bind] at q
theorem dav_cons {e : Expr} {es : List Expr} {f : Ev → Option D} {g : Ev → Option (List D)} (h : DV X e f) (t : DAV X es g) (hs : starEach (e :: es) X.env = (false, eval e X.env) :: starEach es X.env := by rfl) : DAV X (e :: es) (vCons f g) := by
  refine pa_imp (pa_cons h t hs) fun σ H Q q => ?_
  obtain ⟨P, ρ, FE, S, q⟩ := q
  refine ⟨P, ρ, FE, S, ?_⟩
  unfold vCons at q
  cases e : f ρ with
  | none => simp only [e, Option.bind] at q
  | some d =>
    simp only [e, Option.bind] at q
    intro v P1 H1 n1 r1
    refine ⟨P1, ρ, FE, n1.stt S, ?_⟩
    cases e1 : g ρ with
    | none => simp only [e1] at q
    | some ds =>
      simp only [e1] at q
      intro vs P2 H2 n2 r2
      exact q (v :: vs) P2 H2 (n1.trans_ n2) (.cons (rl_mono r1 n2.mono (fun b o e _ => n2.same b o e) fun _ q => q) r2 (fun b z => z) (fun b z => z) fun b z => z.elim)
end
end Hap
namespace Hap
open PySem PySem.Spec PyProof.Rows L2
variable [TabC]
def Kp (kp : List Nat) (σ σ' : L2.St) : Prop := σ'.length = σ.length ∧ ∀ i, i ∈ kp → σ'[i]? = σ[i]?
omit [TabC] in
theorem Kp.refl {kp : List Nat} {σ : L2.St} : Kp kp σ σ := ⟨rfl, fun _ _ => rfl⟩
omit [TabC] in
theorem Kp.trans {kp : List Nat} {σ σ1 σ2 : L2.St} (a : Kp kp σ σ1) (b : Kp kp σ1 σ2) : Kp kp σ σ2 := ⟨b.1.trans a.1, fun i h => (b.2 i h).trans (a.2 i h)⟩
omit [TabC] in
theorem Kp.set {kp : List Nat} {σ : L2.St} {i : Nat} {o : Option V} (h : i ∉ kp) : Kp kp σ (σ.set i o) := ⟨List.length_set, fun j hj => by
  rw [List.getElem?_set_ne]
  intro e; subst e; exact h hj⟩
def PoS (K : PySem.W.Frag) (RX : RXR) (W : WX) (kp : List Nat) (D : Ends) (P : AS) (σ : L2.St) (H : Hp) (FE : FP) (r : RS) : Prop := match r with
  | .nx ρ' => ∀ σ' P' H' FE', Stt K P' H' ρ' σ' FE' → Tr P H (U FE) P' H' (U FE') → Kp kp σ σ' → D.nx σ' H'
  | .bk ρ' => ∀ σ' P' H' FE', Stt K P' H' ρ' σ' FE' → Tr P H (U FE) P' H' (U FE') → Kp kp σ σ' → D.bk σ' H'
  | .ct ρ' => ∀ σ' P' H' FE', Stt K P' H' ρ' σ' FE' → Tr P H (U FE) P' H' (U FE') → Kp kp σ σ' → D.ct σ' H'
  | .rt d ρ' => ∀ v σ' P' H' FE' F, Stt K P' H' ρ' σ' FE' → Tmp K P' H' FE' d v F → Tr P H (U FE) P' H' (fun b => U FE' b ∨ F b) → Kp kp σ σ' → D.rt v H'
  | .exc x ρ' => ∀ cls dx σ' P' H' FE', Stt K P' H' ρ' σ' FE' → Tr P H (U FE) P' H' (U FE') → Kp kp σ σ' → RX x P' H' cls dx → W cls dx σ' H'
  | .stk => False
def tS (K : PySem.W.Frag) (RX : RXR) (W : WX) (kp : List Nat) (g : Ev → RS) : TS := fun D σ H => ∃ P ρ FE, Stt K P H ρ σ FE ∧ PoS K RX W kp D P σ H FE (g ρ)
abbrev DS (X : Cx) (RX : RXR) (W : WX) (kp : List Nat) (s : Stmt) (g : Ev → RS) : Prop := PS X s (tS X.K RX W kp g)
abbrev DSs (X : Cx) (RX : RXR) (W : WX) (kp : List Nat) (s : List Stmt) (g : Ev → RS) : Prop := PSs X s (tS X.K RX W kp g)
def fNext : Ev → RS := .nx
def fSeq (g k : Ev → RS) : Ev → RS := fun ρ => match g ρ with
  | .nx ρ' => k ρ'
  | .rt d ρ' => .rt d ρ'
  | .bk ρ' => .bk ρ'
  | .ct ρ' => .ct ρ'
  | .exc x ρ' => .exc x ρ'
  | .stk => .stk
def RS.of {α : Type} (r : R α) (k : α → Ev → RS) : RS := match r with
  | .ok a ρ => k a ρ
  | .exc x ρ => .exc x ρ
  | .stk => .stk
def fRet (f : Ev → R D) : Ev → RS := fun ρ => RS.of (f ρ) .rt
def fDrop (f : Ev → R D) : Ev → RS := fun ρ => RS.of (f ρ) fun _ ρ' => .nx ρ'
def fIf (c : Ev → R Bool) (g k : Ev → RS) : Ev → RS := fun ρ => RS.of (c ρ) fun b ρ' => if b = true then g ρ' else k ρ'
def fStk : Ev → RS := fun _ => .stk
/-- an assignment: the value, the target -/
def fAsg (f : Ev → R D) (t : D → Ev → Option Ev) : Ev → RS := fun ρ => RS.of (f ρ) fun d ρ' => match t d ρ' with
  | some ρ2 => .nx ρ2
  | none => .stk
section
variable {K : PySem.W.Frag} {RX : RXR} {W : WX} {kp : List Nat} {D : Ends} {P P1 : AS} {σ σ1 : L2.St} {H H1 : Hp} {FE FE1 : FP}
/-- from a later state -/
theorem PoS.later {r : RS} (h : PoS K RX W kp D P σ H FE r) (t : Tr P H (U FE) P1 H1 (U FE1)) (k : Kp kp σ σ1) : PoS K RX W kp D P1 σ1 H1 FE1 r := by
  cases r with
  | nx ρ => exact fun σ' P' H' FE' S u kk => h σ' P' H' FE' S (t.trans u) (k.trans kk)
  | bk ρ => exact fun σ' P' H' FE' S u kk => h σ' P' H' FE' S (t.trans u) (k.trans kk)
  | ct ρ => exact fun σ' P' H' FE' S u kk => h σ' P' H' FE' S (t.trans u) (k.trans kk)
  | rt d ρ => exact fun v σ' P' H' FE' F S T u kk => h v σ' P' H' FE' F S T (t.trans u) (k.trans kk)
  | exc x ρ => exact fun cls dx σ' P' H' FE' S u kk => h cls dx σ' P' H' FE' S (t.trans u) (k.trans kk)
  | stk => exact h
end
section
variable {X : Cx} {RX : RXR} {W : WX} {kp : List Nat}
theorem dss_nil : DSs X RX W kp [] fNext := pss_imp pss_nil fun D σ H ⟨P, ρ, FE, S, q⟩ => q σ P H FE S Tr.refl Kp.refl
theorem dss_cons {s : Stmt} {ss : List Stmt} {g k : Ev → RS} (h : DS X RX W kp s g) (t : DSs X RX W kp ss k) : DSs X RX W kp (s :: ss) (fSeq g k) := by
  refine pss_imp (pss_cons h t) fun D σ H q => ?_
  obtain ⟨P, ρ, FE, S, q⟩ := q
  refine ⟨P, ρ, FE, S, ?_⟩
  unfold fSeq at q
  cases e : g ρ with
  | nx ρ1 =>
    simp only [e] at q
    exact fun σ1 P1 H1 FE1 S1 t1 k1 => ⟨P1, ρ1, FE1, S1, q.later t1 k1⟩
  | rt d ρ1 => simp only [e] at q; exact q
  | bk ρ1 => simp only [e] at q; exact q
  | ct ρ1 => simp only [e] at q; exact q
  | exc x ρ1 => simp only [e] at q; exact q
  | stk => simp only [e] at q; exact q
theorem dss_one {s : Stmt} {g : Ev → RS} (h : DS X RX W kp s g) : DSs X RX W kp [s] g := pss_one h
theorem ds_stk {s : Stmt} : DS X RX W kp s fStk := ps_imp ps_never fun D σ H ⟨P, ρ, FE, S, q⟩ => q
theorem ds_ret {e : Expr} {f : Ev → R D} {pos : Pos} (h : DE X RX W e f) : DS X RX W kp (.Return (some e) pos) (fRet f) := by
  refine ps_imp (ps_ret h) fun D σ H q => ?_
  obtain ⟨P, ρ, FE, S, q⟩ := q
  refine ⟨P, ρ, FE, S, ?_⟩
  unfold fRet at q
  cases e : f ρ with
  | ok d ρ1 => simp only [e, RS.of] at q; exact fun v P' H' FE' F S' T t => q v σ P' H' FE' F S' T t Kp.refl
  | exc x ρ1 => simp only [e, RS.of] at q; exact fun cls dx P' H' FE' S' t r => q cls dx σ P' H' FE' S' t Kp.refl r
  | stk => simp only [e, RS.of] at q; exact q
theorem ds_drop {f : Ev → R D} {s : Stmt} (h : PS X s (tDrop (tE X.K RX W f))) : DS X RX W kp s (fDrop f) := by
  refine ps_imp h fun D σ H q => ?_
  obtain ⟨P, ρ, FE, S, q⟩ := q
  refine ⟨P, ρ, FE, S, ?_⟩
  unfold fDrop at q
  cases e : f ρ with
  | ok d ρ1 => simp only [e, RS.of] at q; exact fun v P' H' FE' F S' T t => q σ P' H' FE' S' t.less' Kp.refl
  | exc x ρ1 => simp only [e, RS.of] at q; exact fun cls dx P' H' FE' S' t r => q cls dx σ P' H' FE' S' t Kp.refl r
  | stk => simp only [e, RS.of] at q; exact q
theorem ds_if {c : Expr} {a b : List Stmt} {f : Ev → R Bool} {g k : Ev → RS} {pos : Pos} (hc : DT X RX W c f) (ha : DSs X RX W kp a g) (hb : DSs X RX W kp b k) : DS X RX W kp (.If c a b pos) (fIf f g k) := by
  refine ps_imp (ps_if hc ha hb) fun D σ H q => ?_
  obtain ⟨P, ρ, FE, S, q⟩ := q
  refine ⟨P, ρ, FE, S, ?_⟩
  unfold fIf at q
  cases e : f ρ with
  | ok d ρ1 =>
    simp only [e, RS.of] at q
    intro P1 H1 FE1 S1 t1
    cases d with
    | true => exact ⟨P1, ρ1, FE1, S1, PoS.later q t1 Kp.refl⟩
    | false => exact ⟨P1, ρ1, FE1, S1, PoS.later q t1 Kp.refl⟩
  | exc x ρ1 => simp only [e, RS.of] at q; exact fun cls dx P' H' FE' S' t r => q cls dx σ P' H' FE' S' t Kp.refl r
  | stk => simp only [e, RS.of] at q; exact q
def tG (K : PySem.W.Frag) (kp : List Nat) (t : D → Ev → Option Ev) : TG := fun v σ H Q => ∃ P ρ FE d F, Stt K P H ρ σ FE ∧ Tmp K P H FE d v F ∧ match t d ρ with
  | some ρ' => ∀ σ' P' H' FE', Stt K P' H' ρ' σ' FE' → Tr P H (fun b => U FE b ∨ F b) P' H' (U FE') → Kp kp σ σ' → Q σ' H'
  | none => False
def tGs (K : PySem.W.Frag) (kp : List Nat) (t : List D → Ev → Option Ev) : TGs := fun vs σ H Q => ∃ P ρ FE ds F, Stt K P H ρ σ FE ∧ Tmps K P H FE ds vs F ∧ match t ds ρ with
  | some ρ' => ∀ σ' P' H' FE', Stt K P' H' ρ' σ' FE' → Tr P H (fun b => U FE b ∨ F b) P' H' (U FE') → Kp kp σ σ' → Q σ' H'
  | none => False
abbrev DG (X : Cx) (kp : List Nat) (e : Expr) (t : D → Ev → Option Ev) : Prop := PG X e (tG X.K kp t)
abbrev DGs (X : Cx) (kp : List Nat) (es : List Expr) (t : List D → Ev → Option Ev) : Prop := PGs X es (tGs X.K kp t)
omit [TabC] in
theorem pg_imp {e : Expr} {t t' : TG} (h : PG X e t) (w : ∀ v σ H Q, t' v σ H Q → t v σ H Q) : PG X e t' := ⟨fun pins s σ H v u Q I r q => h.run pins s σ H v u Q I r (w _ _ _ _ q)⟩
omit [TabC] in
theorem pgs_imp {e : List Expr} {t t' : TGs} (h : PGs X e t) (w : ∀ v σ H Q, t' v σ H Q → t v σ H Q) : PGs X e t' := ⟨fun pins s σ H v u Q I r q => h.run pins s σ H v u Q I r (w _ _ _ _ q)⟩
def gN (i : Nat) : D → Ev → Option Ev := fun d ρ => some (ρ.set i (some d))
def gsN : List D → Ev → Option Ev := fun ds ρ => match ds with
  | [] => some ρ
  | _ :: _ => none
def gsC (t : D → Ev → Option Ev) (u : List D → Ev → Option Ev) : List D → Ev → Option Ev := fun ds ρ => match ds with
  | [] => none
  | d :: ds => match t d ρ with
    | some ρ' => u ds ρ'
    | none => none
def gT (n : Nat) (u : List D → Ev → Option Ev) : D → Ev → Option Ev := fun d ρ => match d with
  | .tup ds => if ds.length = n then u ds ρ else none
  | _ => none
theorem dg_name {i : Nat} {e : Expr} (h : PG X e (gName i)) (hk : i ∉ kp) : DG X kp e (gN i) := by
  refine pg_imp h fun v σ H Q q => ?_
  obtain ⟨P, ρ, FE, d, F, S, T, q⟩ := q
  exact q (σ.set i (some v)) P H _ (S.set T i) (Tr.refl.less fun b z => Stt.set_sub i b z) (Kp.set hk)
theorem dgs_nil : DGs X kp [] gsN := by
  refine pgs_imp pgs_nil fun vs σ H Q q => ?_
  obtain ⟨P, ρ, FE, ds, F, S, T, q⟩ := q
  cases ds with
  | nil =>
    cases T.rl
    exact ⟨rfl, q σ P H FE S (Tr.refl.less fun b z => .inl z) Kp.refl⟩
  | cons d ds => exact q.elim
theorem dgs_cons {e : Expr} {es : List Expr} {t : D → Ev → Option Ev} {u : List D → Ev → Option Ev} (h : DG X kp e t) (k : DGs X kp es u) (hs : (assignEach (e :: es) X.env).map (·.2) = assign e X.env :: (assignEach es X.env).map (·.2) := by rfl) : DGs X kp (e :: es) (gsC t u) := by
  refine pgs_imp (pgs_cons h k hs) fun vs σ H Q q => ?_
  obtain ⟨P, ρ, FE, ds, F, S, T, q⟩ := q
  cases ds with
  | nil => exact q.elim
  | cons d ds =>
    obtain ⟨rl, own⟩ := T
    cases rl with
    | @cons _ v _ vs _ F1 F2 r rs s1 s2 dj =>
      refine ⟨v, vs, rfl, ?_⟩
      have T1 : Tmp X.K P H FE d v F1 := ⟨r, fun b z => own b (s1 b z)⟩
      have T2 : Tmps X.K P H FE ds vs F2 := ⟨rs, fun b z => own b (s2 b z)⟩
      refine ⟨P, ρ, FE, d, F1, S, T1, ?_⟩
      simp only [gsC] at q
      cases e1 : t d ρ with
      | none => simp only [e1] at q
      | some ρ1 =>
        simp only [e1] at q
        intro σ1 P1 H1 FE1 S1 t1 k1
        have T2' : Tmps X.K P1 H1 FE1 ds vs F2 := by
          refine ⟨rls_mono rs t1.mono (fun b o e z => t1.frame b o e fun w => ?_) fun _ z => z, fun b z => ?_⟩
          · rcases z rfl with z | z
            · exact w.elim (fun ⟨i, w⟩ => (S.fin i b w).2 z) fun w => (T1.own b w).2.1 z
            · exact w.elim (T2.own b z).2.2 fun w => dj b w z
          · obtain ⟨h1, h2, h3⟩ := T2.own b z
            exact ⟨t1.alive b h1, fun w => (t1.back b w).elim h2 (fun w => w.elim (fun w => w.elim h3 fun w => dj b w z) h1), fun w => (t1.sub b w).elim (fun w => w.elim h3 fun w => dj b w z) h1⟩
        refine ⟨P1, ρ1, FE1, ds, F2, S1, T2', ?_⟩
        cases e2 : u ds ρ1 with
        | none => simp only [e2] at q
        | some ρ2 =>
          simp only [e2] at q
          intro σ2 P2 H2 FE2 S2 t2 k2
          refine q σ2 P2 H2 FE2 S2 ⟨fun b o e n nt => t2.frame b o (t1.frame b o e (fun w => n (w.imp id (s1 b))) nt) (fun w => ?_) nt, fun b z => t2.mono b (t1.mono b z), fun b z => ?_, fun b z => ?_, fun b z => t2.alive b (t1.alive b z)⟩ (k1.trans k2)
          · rcases w with w | w
            · rcases t1.sub b w with w | w
              · exact n (w.imp id (s1 b))
              · rw [e] at w; cases w
            · exact n (.inr (s2 b w))
          · rcases t2.back b z with z | z | z
            · exact (t1.back b z).imp id fun w => w.imp (fun w => w.imp id (s1 b)) id
            · rcases z with z | z
              · exact .inr ((t1.sub b z).imp (fun w => w.imp id (s1 b)) id)
              · exact .inr (.inl (.inr (s2 b z)))
            · refine .inr (.inr ?_)
              cases e : H b with
              | none => rfl
              | some o => exact absurd z (t1.alive b (by rw [e]; simp))
          · rcases t2.sub b z with z | z
            · rcases z with z | z
              · exact (t1.sub b z).imp (fun w => w.imp id (s1 b)) id
              · exact .inl (.inr (s2 b z))
            · refine .inr ?_
              cases e : H b with
              | none => rfl
              | some o => exact absurd z (t1.alive b (by rw [e]; simp))
theorem dg_tup {es : List Expr} {n k : Nat} {pos : Pos} {u : List D → Ev → Option Ev} (hc : X.calm = true) (h : DGs X kp es u) (hn : (assignEach es X.env).length = n := by rfl) (hst : (assignEach es X.env).findIdx? (·.1) = none := by rfl) :
    DG X kp (.Tuple es k pos) (gT n u) := by
  refine pg_imp (pg_tup hc h hn hst) fun v σ H Q q => ?_
  obtain ⟨P, ρ, FE, d, F, S, T, q⟩ := q
  cases d with
  | tup ds =>
    obtain ⟨rl, own⟩ := T
    cases rl with
    | tup e p rs =>
      simp only [gT] at q
      by_cases hl : ds.length = n
      · simp only [if_pos hl] at q
        exact ⟨_, _, rfl, .inl (.inl e), by rw [← rls_len rs]; exact hl, P, ρ, FE, ds, F, S, ⟨rs, own⟩, q⟩
      · simp only [if_neg hl] at q
  | _ => exact q.elim
/-- target = value -/
theorem ds_asg {s : Stmt} {f : Ev → R D} {t : D → Ev → Option Ev} (h : PS X s (tAsg (tE X.K RX W f) (tG X.K kp t))) : DS X RX W kp s (fAsg f t) := by
  refine ps_imp h fun D σ H q => ?_
  obtain ⟨P, ρ, FE, S, q⟩ := q
  refine ⟨P, ρ, FE, S, ?_⟩
  unfold fAsg at q
  cases e : f ρ with
  | ok d ρ1 =>
    simp only [e, RS.of] at q
    intro v P1 H1 FE1 F1 S1 T1 t1
    refine ⟨P1, ρ1, FE1, d, F1, S1, T1, ?_⟩
    cases e1 : t d ρ1 with
    | none => simp only [e1] at q; exact q
    | some ρ2 =>
      simp only [e1] at q
      exact fun σ2 P2 H2 FE2 S2 t2 k2 => q σ2 P2 H2 FE2 S2 (t1.trans t2) k2
  | exc x ρ1 => simp only [e, RS.of] at q; exact fun cls dx P' H' FE' S' t r => q cls dx σ P' H' FE' S' t Kp.refl r
  | stk => simp only [e, RS.of] at q; exact q
/-- name = value, from the layer's own rules (ps_set, ps_setLc) -/
theorem ds_set {s : Stmt} {i : Nat} {f : Ev → R D} (h : PS X s (tAsg (tE X.K RX W f) (gName i))) (hk : i ∉ kp) : DS X RX W kp s (fAsg f (gN i)) := by
  refine ps_imp h fun D σ H q => ?_
  obtain ⟨P, ρ, FE, S, q⟩ := q
  refine ⟨P, ρ, FE, S, ?_⟩
  unfold fAsg at q
  cases e : f ρ with
  | ok d ρ1 =>
    simp only [e, RS.of, gN] at q
    intro v P1 H1 FE1 F1 S1 T1 t1
    exact q (σ.set i (some v)) P1 H1 _ (S1.set T1 i) (t1.less fun b z => Stt.set_sub i b z) (Kp.set hk)
  | exc x ρ1 => simp only [e, RS.of] at q; exact fun cls dx P' H' FE' S' t r => q cls dx σ P' H' FE' S' t Kp.refl r
  | stk => simp only [e, RS.of] at q; exact q
end
end Hap
namespace Hap
open PySem PySem.Spec PyProof.Rows L2
variable [TabC]
/-- from any later state the walk J yields the data ds, one by one -/
structure Walks (K : PySem.W.Frag) (J : It) (P0 : AS) (H0 : Hp) (ds : List D) : Prop where
  go : ∀ (P : AS) (H : Hp) (i : Nat) (d : D), (∀ b, P b → H b ≠ none) → (∀ b, P0 b → P b) → (∀ b o, P0 b → H0 b = some o → NT o → H b = some o) → ds[i]? = some d →
    J.go i H ∧ ∀ x H3, J.yld i H x H3 → ∃ P3, New P H P3 H3 E_ ∧ Rl true K P3 H3 d x E_
  stop : ∀ (H : Hp), (∀ b o, P0 b → H0 b = some o → NT o → H b = some o) → J.stop ds.length H
def tI (K : PySem.W.Frag) (RX : RXR) (W : WX) (f : Ev → R (List D)) : TI := fun σ H Q => ∃ P ρ FE, Stt K P H ρ σ FE ∧ match f ρ with
  | .ok ds ρ' => ∀ J P' H' FE', Stt K P' H' ρ' σ FE' → Tr P H (U FE) P' H' (U FE') → Walks K J P' H' ds → Q J H'
  | .exc x ρ' => ∀ cls dx P' H' FE', Stt K P' H' ρ' σ FE' → Tr P H (U FE) P' H' (U FE') → RX x P' H' cls dx → W cls dx σ H'
  | .stk => False
abbrev DI (X : Cx) (RX : RXR) (W : WX) (tg e : Expr) (f : Ev → R (List D)) : Prop := PI X tg e (tI X.K RX W f)
omit [TabC] in
theorem pi_imp {X : Cx} {tg e : Expr} {t t' : TI} (h : PI X tg e t) (w : ∀ σ H Q, t' σ H Q → t σ H Q) : PI X tg e t' := ⟨fun pins s σ H Q I q => h.run pins s σ H Q I (w _ _ _ q)⟩
/-- the items of a list, a tuple -/
def itemsL (d : D) : Option (List D) := match d with
  | .lst _ ds => some (frzs ds)
  | .rol ds => some ds
  | _ => none
def itemsT (d : D) : Option (List D) := match d with
  | .tup ds => some (frzs ds)
  | _ => none
def strD (x : Str) : List D := x.cps.toList.map fun c => .str ⟨#[c]⟩
def itemsS (d : D) : Option (List D) := match d with
  | .str x => some (strD x)
  | _ => none
def rangeD (lo : Int) : Nat → List D
  | 0 => []
  | n + 1 => .int lo :: rangeD (lo + 1) n
def zipD : List D → List D → List D
  | x :: xs, y :: ys => .tup [x, y] :: zipD xs ys
  | _, _ => []
def fIt (g : D → Option (List D)) (f : Ev → R D) : Ev → R (List D) := fun ρ => (f ρ).bind fun d ρ' => R.of (g d) ρ'
def fItN (g : List D → Option (List D)) (f : Ev → R (List D)) : Ev → R (List D) := fun ρ => (f ρ).bind fun d ρ' => R.of (g d) ρ'
omit [TabC] in
theorem rangeD_get : ∀ {lo : Int} {n i : Nat} {d : D}, (rangeD lo n)[i]? = some d → i < n ∧ d = .int (lo + (i : Int))
  | lo, 0, i, d, h => by simp [rangeD] at h
  | lo, n + 1, 0, d, h => by
    simp only [rangeD, List.getElem?_cons_zero] at h
    cases h
    exact ⟨Nat.succ_pos _, by simp⟩
  | lo, n + 1, i + 1, d, h => by
    simp only [rangeD, List.getElem?_cons_succ] at h
    obtain ⟨h1, h2⟩ := rangeD_get h
    refine ⟨by omega, ?_⟩
    rw [h2]
    congr 1
    omega
omit [TabC] in
theorem rangeD_len : ∀ (lo : Int) (n : Nat), (rangeD lo n).length = n
  | _, 0 => rfl
  | lo, n + 1 => congrArg (· + 1) (rangeD_len (lo + 1) n)
omit [TabC] in
theorem zipD_get : ∀ {xs ys : List D} {i : Nat} {d : D}, (zipD xs ys)[i]? = some d → ∃ x y, xs[i]? = some x ∧ ys[i]? = some y ∧ d = .tup [x, y]
  | x :: xs, y :: ys, 0, d, h => by
    simp only [zipD, List.getElem?_cons_zero] at h
    cases h
    exact ⟨x, y, rfl, rfl, rfl⟩
  | x :: xs, y :: ys, i + 1, d, h => by
    simp only [zipD, List.getElem?_cons_succ] at h
    obtain ⟨a, b, h1, h2, h3⟩ := zipD_get h
    exact ⟨a, b, by simpa using h1, by simpa using h2, h3⟩
  | [], _, _, _, h => by simp [zipD] at h
  | _ :: _, [], _, _, h => by simp [zipD] at h
omit [TabC] in
theorem zipD_len : ∀ (xs ys : List D), (zipD xs ys).length = min xs.length ys.length
  | [], ys => by simp [zipD]
  | _ :: _, [] => by simp [zipD]
  | _ :: xs, _ :: ys => by simp [zipD, zipD_len xs ys, Nat.succ_min_succ]
theorem New.pair {K : PySem.W.Frag} {P : AS} {H : Hp} {T : Addr} {x y : V} {d e : D} (hT : H T = none) (r1 : Rl true K P H d x E_) (r2 : Rl true K P H e y E_) :
    ∃ P3, New P H P3 (upd H T (.tup [x, y])) E_ ∧ Rl true K P3 (upd H T (.tup [x, y])) (.tup [d, e]) (.ref T) E_ := by
  refine ⟨fun b => P b ∨ b = T, New.tup hT, .tup upd_same (.inr rfl) ?_⟩
  have m : ∀ {d : D} {x : V}, Rl true K P H d x E_ → Rl true K (fun b => P b ∨ b = T) (upd H T (.tup [x, y])) d x E_ := fun r => rl_mono r (fun b z => .inl z) (fun b o e _ _ => by rw [upd_ne (ne_of_none e hT)]; exact e) fun _ z => z
  have m' : ∀ {d : D} {z : V}, Rl true K P H d z E_ → Rl true K (fun b => P b ∨ b = T) (upd H T (.tup [x, y])) d z E_ := fun r => rl_mono r (fun b z => .inl z) (fun b o e _ _ => by rw [upd_ne (ne_of_none e hT)]; exact e) fun _ z => z
  exact .cons (F1 := E_) (F2 := E_) (m' r1) (.cons (F1 := E_) (F2 := E_) (m' r2) .nil (fun _ z => z) (fun _ z => z) fun _ z => z.elim) (fun _ z => z) (fun _ z => z) fun _ z => z.elim
section
variable {K : PySem.W.Frag} {P0 : AS} {H0 : Hp} {ds : List D}
omit [TabC] in
theorem rol_sql {K : PySem.W.Frag} {P : AS} {H : Hp} {p : Addr} {vs : List V} (h : Rol K H P p vs) : SqL K H p vs := by
  rcases h with ⟨_, e | ⟨o, e⟩⟩ | h
  · exact .inl (.inl e)
  · exact .inl (.inr ⟨o, e⟩)
  · exact .inr h
/-- a list given up (or one that is only read) -/
def ImL (K : PySem.W.Frag) (P : AS) (H : Hp) (p : Addr) (ds : List D) : Prop := ∃ vs, ((H p = some (.lst vs) ∧ P p) ∨ Rol K H P p vs) ∧ Rls true K P H ds vs E_
theorem ImL.mono {P P' : AS} {H H' : Hp} {p : Addr} (h : ImL K P H p ds) (hP : ∀ b, P b → P' b) (hH : ∀ b o, P b → H b = some o → NT o → H' b = some o) : ∃ vs, (SqL K H' p vs) ∧ Rls true K P' H' ds vs E_ := by
  obtain ⟨vs, h, r⟩ := h
  refine ⟨vs, ?_, rls_mono r hP (fun b o e q => hH b o ((q rfl).elim id False.elim) e) fun _ z => z⟩
  rcases h with ⟨e, p⟩ | h
  · exact .inl (.inl (hH _ _ p e nt_lst))
  · exact rol_sql (Rol.mono (z := true) (F := E_) h hP fun b o e q => hH b o ((q rfl).elim id False.elim) e)
theorem walks_list {p : Addr} (h : ImL K P0 H0 p ds) : Walks K (Itl K p) P0 H0 ds where
  go := fun P H i d _ hP hH hd => by
    obtain ⟨vs, s, r⟩ := h.mono hP hH
    obtain ⟨v, e, r1⟩ := rls_get r hd
    exact ⟨⟨vs, v, s, e⟩, fun x H3 y => by
      obtain ⟨e1, y⟩ := y
      subst e1
      have := y vs s
      rw [e] at this; cases this
      exact ⟨P, New.refl, r1⟩⟩
  stop := fun H hH => by
    obtain ⟨vs, s, r⟩ := h.mono (P' := P0) (fun _ q => q) hH
    exact ⟨vs, s, Nat.le_of_eq (rls_len r).symm⟩
theorem walks_tup {p : Addr} (h : ∃ vs, H0 p = some (.tup vs) ∧ P0 p ∧ Rls true K P0 H0 ds vs E_) : Walks K (Itt K p) P0 H0 ds where
  go := fun P H i d _ hP hH hd => by
    obtain ⟨vs, e, p, r⟩ := h
    obtain ⟨v, e1, r1⟩ := rls_get (rls_mono r hP (fun b o e q => hH b o ((q rfl).elim id False.elim) e) fun _ z => z) hd
    have s : SqT K H _ vs := .inl (.inl (hH _ _ p e nt_tup))
    exact ⟨⟨vs, v, s, e1⟩, fun x H3 y => by
      obtain ⟨e2, y⟩ := y
      subst e2
      have := y vs s
      rw [e1] at this; cases this
      exact ⟨P, New.refl, r1⟩⟩
  stop := fun H hH => by
    obtain ⟨vs, e, p, r⟩ := h
    exact ⟨vs, .inl (.inl (hH _ _ p e nt_tup)), Nat.le_of_eq (rls_len r).symm⟩
theorem walks_range {lo : Int} {n : Nat} : Walks K (Itr lo n) P0 H0 (rangeD lo n) where
  go := fun P H i d _ hP hH hd => by
    obtain ⟨h1, h2⟩ := rangeD_get hd
    refine ⟨h1, fun x H3 y => ?_⟩
    obtain ⟨rfl, rfl⟩ := y
    exact ⟨P, New.refl, h2 ▸ .int⟩
  stop := fun H hH => by show n ≤ _; rw [rangeD_len]; exact Nat.le_refl _
omit [TabC] in
theorem strD_get {x : Str} {i : Nat} {d : D} (h : (strD x)[i]? = some d) : ∃ c, x.cps[i]? = some c ∧ d = .str ⟨#[c]⟩ := by
  unfold strD at h
  rw [List.getElem?_map, Array.getElem?_toList] at h
  cases e : x.cps[i]? with
  | none => rw [e] at h; cases h
  | some c => rw [e] at h; cases h; exact ⟨c, rfl, rfl⟩
omit [TabC] in
theorem strD_len (x : Str) : (strD x).length = x.cps.size := by unfold strD; rw [List.length_map, Array.length_toList]
theorem walks_str {x : Str} : Walks K (Its x) P0 H0 (strD x) where
  go := fun P H i d _ hP hH hd => by
    obtain ⟨c, h1, h2⟩ := strD_get hd
    refine ⟨(Array.getElem?_eq_some_iff.mp h1).1, fun v H3 y => ?_⟩
    obtain ⟨rfl, c', e, rfl⟩ := y
    rw [h1] at e; cases e
    exact ⟨P, New.refl, h2 ▸ .str⟩
  stop := fun H hH => by show x.cps.size ≤ _; rw [strD_len]; exact Nat.le_refl _
end
section
variable {X : Cx} {RX : RXR} {W : WX} {tg e : Expr}
/-- a datum whose items are taken: all of it is given up -/
theorem itemsL_im {K : PySem.W.Frag} {P : AS} {H : Hp} {FE : FP} {d : D} {v : V} {F : AS} {ds : List D} (T : Tmp K P H FE d v F) (h : itemsL d = some ds) : ∃ p, v = .ref p ∧ (∃ vs, SqL K H p vs) ∧ ImL K (fun b => P b ∨ F b) H p ds := by
  obtain ⟨r, _⟩ := T
  cases r with
  | lstO e f s rs =>
    cases h
    exact ⟨_, rfl, ⟨_, .inl (.inl e)⟩, _, .inl ⟨e, .inr (f rfl)⟩, rls_frz rs (fun b z => .inl z) fun b z => .inr (s b z).1⟩
  | lstI e p i rs =>
    cases h
    exact ⟨_, rfl, ⟨_, .inl (.inl e)⟩, _, .inl ⟨e, .inl p⟩, rls_frz rs (fun b z => .inl z) fun b z => z.elim⟩
  | rol e i rs =>
    cases h
    exact ⟨_, rfl, ⟨_, rol_sql e⟩, _, .inr (Rol.mono (z := true) (F := E_) e (fun b z => .inl z) fun b o e _ _ => e), rls_mono rs (fun b z => .inl z) (fun b o e _ _ => e) fun _ z => z⟩
  | _ => cases h
theorem di_list {f : Ev → R D} (h : DE X RX W e f) : DI X RX W tg e (fIt itemsL f) := by
  refine pi_imp (pi_list h) fun σ H Q q => ?_
  obtain ⟨P, ρ, FE, S, q⟩ := q
  refine ⟨P, ρ, FE, S, ?_⟩
  unfold fIt at q
  cases e : f ρ with
  | ok d ρ1 =>
    simp only [e, R.bind] at q
    intro v P1 H1 FE1 F1 S1 T1 t1
    cases e2 : itemsL d with
    | none => simp only [e2, R.of] at q
    | some ds =>
      simp only [e2, R.of] at q
      obtain ⟨p, ev, hs, im⟩ := itemsL_im T1 e2
      exact ⟨p, ev, hs, q _ _ H1 FE1 (S1.give fun b z => ⟨(T1.own b z).1, (T1.own b z).2.2⟩) t1.give (walks_list im)⟩
  | exc x ρ1 => simp only [e, R.bind] at q; exact q
  | stk => simp only [e, R.bind] at q
theorem di_str {f : Ev → R D} (h : DE X RX W e f) : DI X RX W tg e (fIt itemsS f) := by
  refine pi_imp (pi_str h) fun σ H Q q => ?_
  obtain ⟨P, ρ, FE, S, q⟩ := q
  refine ⟨P, ρ, FE, S, ?_⟩
  unfold fIt at q
  cases e : f ρ with
  | ok d ρ1 =>
    simp only [e, R.bind] at q
    intro v P1 H1 FE1 F1 S1 T1 t1
    cases e2 : itemsS d with
    | none => simp only [e2, R.of] at q
    | some ds =>
      simp only [e2, R.of] at q
      obtain ⟨r, _⟩ := T1
      cases r with
      | str =>
        cases e2
        exact ⟨_, rfl, q _ _ H1 FE1 S1 t1.less' walks_str⟩
      | _ => cases e2
  | exc x ρ1 => simp only [e, R.bind] at q; exact q
  | stk => simp only [e, R.bind] at q
theorem di_tup {f : Ev → R D} (h : DE X RX W e f) : DI X RX W tg e (fIt itemsT f) := by
  refine pi_imp (pi_tup h) fun σ H Q q => ?_
  obtain ⟨P, ρ, FE, S, q⟩ := q
  refine ⟨P, ρ, FE, S, ?_⟩
  unfold fIt at q
  cases e : f ρ with
  | ok d ρ1 =>
    simp only [e, R.bind] at q
    intro v P1 H1 FE1 F1 S1 T1 t1
    cases e2 : itemsT d with
    | none => simp only [e2, R.of] at q
    | some ds =>
      simp only [e2, R.of] at q
      obtain ⟨r, own⟩ := T1
      cases r with
      | tup h0 p rs =>
        cases e2
        exact ⟨_, rfl, ⟨_, .inl (.inl h0)⟩, q _ _ H1 FE1 (S1.give fun b z => ⟨(own b z).1, (own b z).2.2⟩) t1.give (walks_tup ⟨_, h0, .inl p, rls_frz rs (fun b z => .inl z) fun b z => .inr z⟩)⟩
      | _ => cases e2
  | exc x ρ1 => simp only [e, R.bind] at q; exact q
  | stk => simp only [e, R.bind] at q
def rng1 (ds : List D) : Option (List D) := match ds with
  | [.int j] => if -(2 ^ 62) ≤ j ∧ j < 2 ^ 62 then some (rangeD 0 j.toNat) else none
  | _ => none
/-- what an argument list's items give -/
theorem a_it {K : PySem.W.Frag} {f : Ev → R (List D)} {g : List D → Option (List D)} {σ : L2.St} {H : Hp} {Q : It → Hp → Prop} (q : tI K RX W (fItN g f) σ H Q) {C : List V → Hp → Prop}
    (w : ∀ (P : AS) (H1 : Hp) (ρ : Ev) (FE : FP) vs ds F ds', Stt K P H1 ρ σ FE → Tmps K P H1 FE ds vs F → g ds = some ds' → (∀ J, Walks K J (fun b => P b ∨ F b) H1 ds' → Q J H1) → C vs H1) : tA K RX W f σ H C := by
  obtain ⟨P, ρ, FE, S, q⟩ := q
  refine ⟨P, ρ, FE, S, ?_⟩
  unfold fItN at q
  cases e : f ρ with
  | ok d ρ1 =>
    simp only [e, R.bind] at q
    intro v P1 H1 FE1 F1 S1 T1 t1
    cases e2 : g d with
    | none => simp only [e2, R.of] at q
    | some ds =>
      simp only [e2, R.of] at q
      exact w P1 H1 ρ1 FE1 v d F1 ds S1 T1 e2 fun J k => q J _ H1 FE1 (S1.give fun b z => ⟨(T1.own b z).1, (T1.own b z).2.2⟩) t1.give k
  | exc x ρ1 => simp only [e, R.bind] at q; exact q
  | stk => simp only [e, R.bind] at q
omit [TabC] in
theorem rls1 {z : Bool} {K : PySem.W.Frag} {P : AS} {H : Hp} {d : D} {vs : List V} {F : AS} (h : Rls z K P H [d] vs F) : ∃ v, vs = [v] ∧ Rl z K P H d v F := by
  cases h with
  | cons r rs s1 s2 dj => cases rs; exact ⟨_, rfl, rl_mono r (fun _ q => q) (fun _ _ e _ _ => e) s1⟩
omit [TabC] in
theorem rls2 {z : Bool} {K : PySem.W.Frag} {P : AS} {H : Hp} {d e : D} {vs : List V} {F : AS} (h : Rls z K P H [d, e] vs F) : ∃ v w F1 F2, vs = [v, w] ∧ Rl z K P H d v F1 ∧ Rl z K P H e w F2 ∧ (∀ b, F1 b → F b) ∧ (∀ b, F2 b → F b) ∧ (∀ b, F1 b → F2 b → False) := by
  cases h with
  | cons r rs s1 s2 dj =>
    cases rs with
    | cons r' rs' s1' s2' dj' => cases rs'; exact ⟨_, _, _, _, rfl, r, r', s1, fun b z => s2 b (s1' b z), fun b z w => dj b z (s1' b w)⟩
omit [TabC] in
theorem rl_int {z : Bool} {K : PySem.W.Frag} {P : AS} {H : Hp} {i : Int} {v : V} {F : AS} (h : Rl z K P H (.int i) v F) : v = .int i := by cases h; rfl
omit [TabC] in
theorem rl_bl {z : Bool} {K : PySem.W.Frag} {P : AS} {H : Hp} {i : Bool} {v : V} {F : AS} (h : Rl z K P H (.bl i) v F) : v = .bl i := by cases h; rfl
omit [TabC] in
theorem rl_str {z : Bool} {K : PySem.W.Frag} {P : AS} {H : Hp} {i : Str} {v : V} {F : AS} (h : Rl z K P H (.str i) v F) : v = .str i := by cases h; rfl
omit [TabC] in
theorem rl_non {z : Bool} {K : PySem.W.Frag} {P : AS} {H : Hp} {v : V} {F : AS} (h : Rl z K P H .non v F) : v = .non := by cases h; rfl
omit [TabC] in
theorem rng1_ok {ds ds' : List D} (h : rng1 ds = some ds') : ∃ j, ds = [.int j] ∧ -(2 ^ 62) ≤ j ∧ j < 2 ^ 62 ∧ ds' = rangeD 0 j.toNat := by
  unfold rng1 at h
  split at h
  · rename_i j
    split at h
    · rename_i c
      cases h
      exact ⟨j, rfl, c.1, c.2, rfl⟩
    · cases h
  · cases h
theorem di_range1 {a : Expr} {f : Ev → R (List D)} {p pos : Pos} (hg : Gl X "range") (hm : X.mg "range" = none) (ha : DA X RX W [a] f) (hs : starEach [a] X.env = [(false, eval a X.env)] := by rfl) : DI X RX W tg (.Call (.Name "range" p) [a] [] pos) (fItN rng1 f) := by
  refine pi_imp (pi_range1 hg hm ha hs) fun σ H Q q => a_it q fun P H1 ρ FE vs ds F ds' S T g k => ?_
  obtain ⟨j, rfl, h1, h2, rfl⟩ := rng1_ok g
  obtain ⟨v, rfl, r⟩ := rls1 T.rl
  rw [rl_int r]
  exact ⟨j, rfl, h1, h2, k _ walks_range⟩
def loopS (step : D → Ev → RS) : List D → Ev → RS
  | [], ρ => .nx ρ
  | d :: ds, ρ => match step d ρ with
    | .nx ρ' => loopS step ds ρ'
    | .ct ρ' => loopS step ds ρ'
    | .bk ρ' => .nx ρ'
    | .rt d ρ' => .rt d ρ'
    | .exc x ρ' => .exc x ρ'
    | .stk => .stk
def stepS (t : D → Ev → Option Ev) (g : Ev → RS) : D → Ev → RS := fun d ρ => match t d ρ with
  | some ρ' => g ρ'
  | none => .stk
def fFor (f : Ev → R (List D)) (t : D → Ev → Option Ev) (g : Ev → RS) : Ev → RS := fun ρ => RS.of (f ρ) (loopS (stepS t g))
theorem ds_for {kp : List Nat} {iter : Expr} {body : List Stmt} {f : Ev → R (List D)} {t : D → Ev → Option Ev} {g : Ev → RS} {pos : Pos} (hp : PassesOwn (model X.prog X.w) X.A X.env X.xe) (hc : X.calm = true)
    (hi : DI X RX W tg iter f) (hg : DG X kp tg t) (hb : DSs X RX W kp body g) (hs : ∀ x, foldedSetIterable iter X.env x = pure x := by intro _; rfl) : DS X RX W kp (.For tg iter body [] pos) (fFor f t g) := by
  refine ps_imp (ps_for hp hc hi hg hb hs) fun D σ H q => ?_
  obtain ⟨P, ρ, FE, S, q⟩ := q
  refine ⟨P, ρ, FE, S, ?_⟩
  unfold fFor at q
  cases e : f ρ with
  | exc x ρ1 => simp only [e, RS.of] at q; exact fun cls dx P' H' FE' S' t r => q cls dx σ P' H' FE' S' t Kp.refl r
  | stk => simp only [e, RS.of] at q; exact q
  | ok ds ρ1 =>
    simp only [e, RS.of] at q
    intro J P1 H1 FE1 S1 t1 wk
    have q1 := PoS.later q t1 Kp.refl
    refine ⟨fun i m σ2 H2 => m = ds.length - i ∧ i ≤ ds.length ∧ (∀ b o, P1 b → H1 b = some o → NT o → H2 b = some o) ∧ ∃ P2 ρ2 FE2, Stt X.K P2 H2 ρ2 σ2 FE2 ∧ (∀ b, P1 b → P2 b) ∧ PoS X.K RX W kp D P2 σ2 H2 FE2 (loopS (stepS t g) (ds.drop i) ρ2),
      ⟨ds.length, by simp, Nat.zero_le _, fun _ _ _ e _ => e, P1, ρ1, FE1, S1, fun _ z => z, by simpa using q1⟩, ?_⟩
    rintro i m σ2 H2 ⟨rfl, hi, kH, P2, ρ2, FE2, S2, kP, q2⟩
    by_cases hlt : i < ds.length
    · have hd : ds[i]? = some ds[i] := List.getElem?_eq_getElem hlt
      obtain ⟨go, yl⟩ := wk.go P2 H2 i ds[i] S2.pin kP kH hd
      have hdr : ds.drop i = ds[i] :: ds.drop (i + 1) := List.drop_eq_getElem_cons hlt
      rw [hdr] at q2
      refine .inr ⟨go, fun σ' H' => (∀ b o, P1 b → H1 b = some o → NT o → H' b = some o) ∧ ∃ P3 ρ3 FE3, Stt X.K P3 H' ρ3 σ' FE3 ∧ (∀ b, P1 b → P3 b) ∧ PoS X.K RX W kp D P3 σ' H' FE3 (loopS (stepS t g) (ds.drop (i + 1)) ρ3),
        fun σ' H' ⟨k1, z⟩ => ⟨ds.length - (i + 1), by omega, rfl, hlt, k1, z⟩, fun x H3 y => ?_⟩
      obtain ⟨P3, n3, r3⟩ := yl x H3 y
      have S3 := n3.stt S2
      have t3 : Tr P2 H2 (U FE2) P3 H3 (U FE2) := n3.tr.less'
      refine ⟨P3, ρ2, FE2, ds[i], E_, S3, ⟨r3, fun b z => z.elim⟩, ?_⟩
      simp only [loopS, stepS] at q2
      cases e1 : t ds[i] ρ2 with
      | none => simp only [e1] at q2; exact q2
      | some ρ3 =>
        simp only [e1] at q2
        intro σ4 P4 H4 FE4 S4 t4 k4
        have t4' : Tr P3 H3 (U FE2) P4 H4 (U FE4) := ⟨fun b o e n => t4.frame b o e fun z => z.elim n False.elim, t4.mono, fun b z => (t4.back b z).imp id fun z => z.imp (fun z => z.elim id False.elim) id, fun b z => (t4.sub b z).imp (fun z => z.elim id False.elim) id, t4.alive⟩
        have t24 := t3.trans t4'
        have kH4 : ∀ b o, P1 b → H1 b = some o → NT o → H4 b = some o := fun b o p e nt => t24.frame b o (kH b o p e nt) (fun ⟨j, z⟩ => (S2.fin j b z).2 (kP b p)) nt
        have kP4 : ∀ b, P1 b → P4 b := fun b z => t24.mono b (kP b z)
        refine ⟨P4, ρ3, FE4, S4, ?_⟩
        have nxt : ∀ {ρ5 : Ev} {σ5 : L2.St} {P5 : AS} {H5 : Hp} {FE5 : FP}, Stt X.K P5 H5 ρ5 σ5 FE5 → Tr P4 H4 (U FE4) P5 H5 (U FE5) → Kp kp σ4 σ5 → PoS X.K RX W kp D P2 σ2 H2 FE2 (loopS (stepS t g) (ds.drop (i + 1)) ρ5) →
            (∀ b o, P1 b → H1 b = some o → NT o → H5 b = some o) ∧ ∃ P3 ρ3 FE3, Stt X.K P3 H5 ρ3 σ5 FE3 ∧ (∀ b, P1 b → P3 b) ∧ PoS X.K RX W kp D P3 σ5 H5 FE3 (loopS (stepS t g) (ds.drop (i + 1)) ρ3) :=
          fun {ρ5 σ5 P5 H5 FE5} S5 t5 k5 q5 => ⟨fun b o p e nt => t5.frame b o (kH4 b o p e nt) (fun ⟨j, z⟩ => (S4.fin j b z).2 (kP4 b p)) nt, P5, ρ5, FE5, S5, fun b z => t5.mono b (kP4 b z), q5.later (t24.trans t5) (k4.trans k5)⟩
        cases e2 : g ρ3 with
        | nx ρ5 => simp only [e2] at q2; exact fun σ5 P5 H5 FE5 S5 t5 k5 => nxt S5 t5 k5 q2
        | ct ρ5 => simp only [e2] at q2; exact fun σ5 P5 H5 FE5 S5 t5 k5 => nxt S5 t5 k5 q2
        | bk ρ5 => simp only [e2] at q2; exact fun σ5 P5 H5 FE5 S5 t5 k5 => q2 σ5 P5 H5 FE5 S5 (t24.trans t5) (k4.trans k5)
        | rt d ρ5 => simp only [e2] at q2; exact fun v σ5 P5 H5 FE5 F5 S5 T5 t5 k5 => q2 v σ5 P5 H5 FE5 F5 S5 T5 (t24.trans t5) (k4.trans k5)
        | exc x ρ5 => simp only [e2] at q2; exact fun cls dx σ5 P5 H5 FE5 S5 t5 k5 r => q2 cls dx σ5 P5 H5 FE5 S5 (t24.trans t5) (k4.trans k5) r
        | stk => simp only [e2] at q2; exact q2
    · have e : i = ds.length := by omega
      subst e
      rw [List.drop_length] at q2
      exact .inl ⟨wk.stop H2 kH, q2 σ2 P2 H2 FE2 S2 Tr.refl Kp.refl⟩
end
end Hap
namespace Hap
open PySem PySem.Spec PyProof.Rows L2
variable [TabC]
def whileS (c : Ev → R Bool) (g : Ev → RS) : Nat → Ev → RS
  | 0, _ => .stk
  | n + 1, ρ => match c ρ with
    | .ok true ρ1 => (match g ρ1 with
      | .nx ρ2 => whileS c g n ρ2
      | .ct ρ2 => whileS c g n ρ2
      | .bk ρ2 => .nx ρ2
      | .rt d ρ2 => .rt d ρ2
      | .exc x ρ2 => .exc x ρ2
      | .stk => .stk)
    | .ok false ρ1 => .nx ρ1
    | .exc x ρ1 => .exc x ρ1
    | .stk => .stk
def fWhile (n : Nat) (c : Ev → R Bool) (g : Ev → RS) : Ev → RS := whileS c g n
section
variable {X : Cx} {RX : RXR} {W : WX} {kp : List Nat}
theorem ds_while {n : Nat} {c : Expr} {body : List Stmt} {f : Ev → R Bool} {g : Ev → RS} {pos : Pos} (hp : PassesOwn (model X.prog X.w) X.A X.env X.xe) (hc : DT X RX W c f) (hb : DSs X RX W kp body g) : DS X RX W kp (.While c body [] pos) (fWhile n f g) := by
  refine ps_imp (ps_while hp hc hb) fun D σ H q => ?_
  obtain ⟨P, ρ, FE, S, q⟩ := q
  refine ⟨fun m σ2 H2 => ∃ P2 ρ2 FE2, Stt X.K P2 H2 ρ2 σ2 FE2 ∧ PoS X.K RX W kp D P2 σ2 H2 FE2 (whileS f g m ρ2), ⟨n, P, ρ, FE, S, q⟩, ?_⟩
  rintro m σ2 H2 ⟨P2, ρ2, FE2, S2, q2⟩
  refine ⟨P2, ρ2, FE2, S2, ?_⟩
  cases m with
  | zero => exact q2.elim
  | succ m =>
    simp only [whileS] at q2
    cases e : f ρ2 with
    | exc x ρ3 => simp only [e] at q2; exact fun cls dx P' H' FE' S' t r => q2 cls dx σ2 P' H' FE' S' t Kp.refl r
    | stk => simp only [e] at q2; exact q2
    | ok b ρ3 =>
      intro P3 H3 FE3 S3 t3
      cases b with
      | false =>
        simp only [e] at q2
        exact q2 σ2 P3 H3 FE3 S3 t3 Kp.refl
      | true =>
        simp only [e] at q2
        refine ⟨fun σ4 H4 => ∃ P4 ρ4 FE4, Stt X.K P4 H4 ρ4 σ4 FE4 ∧ PoS X.K RX W kp D P4 σ4 H4 FE4 (whileS f g m ρ4), fun σ4 H4 z => ⟨m, Nat.lt_succ_self m, z⟩, P3, ρ3, FE3, S3, ?_⟩
        cases e2 : g ρ3 with
        | nx ρ4 => simp only [e2] at q2; exact fun σ4 P4 H4 FE4 S4 t4 k4 => ⟨P4, ρ4, FE4, S4, q2.later (t3.trans t4) k4⟩
        | ct ρ4 => simp only [e2] at q2; exact fun σ4 P4 H4 FE4 S4 t4 k4 => ⟨P4, ρ4, FE4, S4, q2.later (t3.trans t4) k4⟩
        | bk ρ4 => simp only [e2] at q2; exact fun σ4 P4 H4 FE4 S4 t4 k4 => q2 σ4 P4 H4 FE4 S4 (t3.trans t4) k4
        | rt d ρ4 => simp only [e2] at q2; exact fun v σ4 P4 H4 FE4 F4 S4 T4 t4 k4 => q2 v σ4 P4 H4 FE4 F4 S4 T4 (t3.trans t4) k4
        | exc x ρ4 => simp only [e2] at q2; exact fun cls dx σ4 P4 H4 FE4 S4 t4 k4 r => q2 cls dx σ4 P4 H4 FE4 S4 (t3.trans t4) k4 r
        | stk => simp only [e2] at q2; exact q2
end
def wipeE (ρ : Ev) : List Nat → Ev
  | [] => ρ
  | v :: vs => (wipeE ρ vs).set v none
/-- the slots of the block's own names as they were (nothing of one's own may stand there) -/
def backE (ρ0 ρ : Ev) : List Nat → Ev
  | [] => ρ
  | v :: vs => (backE ρ0 ρ vs).set v (match ρ0[v]? with | some o => o | none => none)
def immAt (ρ : Ev) (vs : List Nat) : Bool := vs.all fun v => match ρ[v]? with
  | some (some d) => isImm d
  | _ => true
/-- items one by one: the target, the tests, the element -/
def loopC (t : D → Ev → Option Ev) (c : Ev → R Bool) (f : Ev → R D) (vs : List Nat) : List D → List D → Ev → R (List D)
  | [], acc, ρ => .ok acc ρ
  | d :: ds, acc, ρ => match t d ρ with
    | none => .stk
    | some ρ1 => match c ρ1 with
      | .ok true ρ2 => (match f ρ2 with
        | .ok e ρ3 => loopC t c f vs ds (acc ++ [e]) (wipeE ρ3 vs)
        | _ => .stk)
      | .ok false ρ2 => loopC t c f vs ds acc (wipeE ρ2 vs)
      | _ => .stk
def fLc (i : Ev → R (List D)) (t : D → Ev → Option Ev) (c : Ev → R Bool) (f : Ev → R D) (vs : List Nat) : Ev → R D := fun ρ => (i ρ).bind fun ds ρ1 =>
  if immAt ρ1 vs = true ∧ ds.length ≤ sizeLine then
    match loopC t c f vs ds [] (wipeE ρ1 vs) with
    | .ok acc ρ2 => .ok (.lst true acc) (backE ρ1 ρ2 vs)
    | _ => .stk
  else .stk
section
variable {K : PySem.W.Frag} {P P' : AS} {H : Hp} {FE : FP} {ρ ρ1 : Ev} {σ : L2.St}
omit [TabC] in
theorem rls_snoc {z : Bool} {d : D} {v : V} : ∀ {ds : List D} {vs : List V} {F1 F2 F : AS}, Rls z K P H ds vs F1 → Rl z K P H d v F2 → (∀ b, F1 b → F b) → (∀ b, F2 b → F b) → (∀ b, F1 b → F2 b → False) → Rls z K P H (ds ++ [d]) (vs ++ [v]) F
  | _, _, F1, F2, F, .nil, r, _, s2, _ => .cons (F1 := F2) (F2 := E_) r .nil s2 (fun _ q => q.elim) fun _ _ q => q
  | _, _, F1, F2, F, .cons (F1 := G1) (F2 := G2) r' rs t1 t2 dj', r, s1, s2, dj =>
    .cons (F1 := G1) (F2 := fun b => G2 b ∨ F2 b) r' (rls_snoc rs r (fun _ q => .inl q) (fun _ q => .inr q) fun b q w => dj b (t2 b q) w) (fun b q => s1 b (t1 b q)) (fun b q => q.elim (fun q => s1 b (t2 b q)) (s2 b)) fun b q w => w.elim (dj' b q) (dj b (t1 b q))
omit [TabC] in
theorem wipeE_in {v : Nat} {d : D} : ∀ {vs : List Nat} {ρ : Ev}, (wipeE ρ vs)[v]? = some (some d) → v ∉ vs ∧ ρ[v]? = some (some d)
  | [], _, h => ⟨by simp, h⟩
  | u :: vs, ρ, h => by
    unfold wipeE at h
    by_cases e : u = v
    · subst e
      by_cases hl : u < (wipeE ρ vs).length
      · rw [List.getElem?_set_self hl] at h; cases h
      · rw [List.getElem?_eq_none (by simpa using hl)] at h; cases h
    · rw [List.getElem?_set_ne e] at h
      obtain ⟨h1, h2⟩ := wipeE_in h
      exact ⟨by simp only [List.mem_cons, not_or]; exact ⟨Ne.symm e, h1⟩, h2⟩
omit [TabC] in
theorem wipeE_len : ∀ (vs : List Nat) (ρ : Ev), (wipeE ρ vs).length = ρ.length
  | [], _ => rfl
  | u :: vs, ρ => by unfold wipeE; rw [List.length_set, wipeE_len vs ρ]
omit [TabC] in
theorem wipe_get {v : Nat} : ∀ {vs : List Nat} {σ : L2.St}, v ∉ vs → (wipe σ vs)[v]? = σ[v]?
  | [], _, _ => rfl
  | u :: vs, σ, h => by
    simp only [List.mem_cons, not_or] at h
    unfold wipe
    rw [List.getElem?_set_ne (Ne.symm h.1)]
    exact wipe_get h.2
omit [TabC] in
theorem wipe_in {v : Nat} : ∀ {vs : List Nat} {σ : L2.St}, v ∈ vs → v < σ.length → (wipe σ vs)[v]? = some none
  | [], _, h, _ => by simp at h
  | u :: vs, σ, h, hl => by
    unfold wipe
    by_cases e : u = v
    · subst e
      rw [List.getElem?_set_self (by rw [wipe_length]; exact hl)]
    · rw [List.getElem?_set_ne e]
      exact wipe_in (by simpa [Ne.symm e] using h) hl
theorem wipe_eq {vs : List Nat} {σ σ' : L2.St} (hl : σ'.length = σ.length) (h : ∀ i, i ∉ vs → σ'[i]? = σ[i]?) : wipe σ' vs = wipe σ vs := by
  apply List.ext_getElem?
  intro i
  by_cases hi : i ∈ vs
  · by_cases hlt : i < σ.length
    · rw [wipe_in hi hlt, wipe_in hi (by omega)]
    · rw [List.getElem?_eq_none (by rw [wipe_length]; omega), List.getElem?_eq_none (by rw [wipe_length]; omega)]
  · rw [wipe_get hi, wipe_get hi, h i hi]
omit [TabC] in
theorem backE_len : ∀ (vs : List Nat) (ρ0 ρ : Ev), (backE ρ0 ρ vs).length = ρ.length
  | [], _, _ => rfl
  | u :: vs, ρ0, ρ => by unfold backE; rw [List.length_set, backE_len vs ρ0 ρ]
omit [TabC] in
theorem backE_get {v : Nat} : ∀ {vs : List Nat} {ρ0 ρ : Ev}, v ∉ vs → (backE ρ0 ρ vs)[v]? = ρ[v]?
  | [], _, _, _ => rfl
  | u :: vs, ρ0, ρ, h => by
    simp only [List.mem_cons, not_or] at h
    unfold backE
    rw [List.getElem?_set_ne (Ne.symm h.1)]
    exact backE_get h.2
omit [TabC] in
theorem backE_in {v : Nat} {d : D} : ∀ {vs : List Nat} {ρ0 ρ : Ev}, v ∈ vs → (backE ρ0 ρ vs)[v]? = some (some d) → ρ0[v]? = some (some d)
  | [], _, _, h, _ => by simp at h
  | u :: vs, ρ0, ρ, h, e => by
    unfold backE at e
    by_cases hu : u = v
    · subst hu
      by_cases hl : u < (backE ρ0 ρ vs).length
      · rw [List.getElem?_set_self hl] at e
        split at e
        · rename_i o eo
          cases e
          exact eo
        · cases e
      · rw [List.getElem?_eq_none (by simpa using hl)] at e; cases e
    · rw [List.getElem?_set_ne hu] at e
      exact backE_in (by simpa [Ne.symm hu] using h) e
theorem Stt.wipe (S : Stt K P H ρ σ FE) (vs : List Nat) : Stt K P H (wipeE ρ vs) (L2.wipe σ vs) FE where
  pin := S.pin
  fin := S.fin
  dj := S.dj
  rel := fun i d e => by
    obtain ⟨h1, h2⟩ := wipeE_in e
    obtain ⟨v, e1, r⟩ := S.rel i d h2
    exact ⟨v, by rw [wipe_get h1]; exact e1, r⟩
  len := by rw [wipeE_len, wipe_length, S.len]
  tab := S.tab
/-- behind a block's turn: forget the block's names -/
theorem Stt.wipe2 {σ0 : L2.St} (S : Stt K P H ρ σ FE) {vs : List Nat} (h : L2.wipe σ vs = L2.wipe σ0 vs) : Stt K P H (wipeE ρ vs) (L2.wipe σ0 vs) FE := h ▸ S.wipe vs
/-- an object of a thing at hand is written -/
theorem Stt.write {a : Addr} {o u : HO} (S : Stt K P H ρ σ FE) (e : H a = some u) (n : Nd u) (h1 : ¬ P a) (h2 : ¬ U FE a) : Stt K P (upd H a o) ρ σ FE where
  tab := tabs_write S.tab e n
  pin := fun b q => by rw [upd_ne (fun e => h1 (by rw [← e]; exact q))]; exact S.pin b q
  fin := fun i b q => ⟨by rw [upd_ne (fun e => h2 ⟨i, by rw [← e]; exact q⟩)]; exact (S.fin i b q).1, (S.fin i b q).2⟩
  dj := S.dj
  rel := fun i d e => by
    obtain ⟨v, e1, r⟩ := S.rel i d e
    exact ⟨v, e1, rl_mono r (fun _ q => q) (fun b o e q _ => by rw [upd_ne]; exact e; intro z; subst z; exact (q rfl).elim h1 fun w => h2 ⟨i, w⟩) fun _ q => q⟩
  len := S.len
omit [TabC] in
theorem Tr.write {U0 U1 : AS} {P0 : AS} {H0 : Hp} {a : Addr} {o : HO} (t : Tr P0 H0 U0 P H U1) (h : U1 a) : Tr P0 H0 U0 P (upd H a o) U1 where
  frame := fun b u e n nt => by
    rw [upd_ne]
    · exact t.frame b u e n nt
    · intro z; subst z
      exact (t.sub _ h).elim n fun w => by rw [e] at w; cases w
  mono := t.mono
  back := t.back
  sub := t.sub
  alive := fun b q => by
    by_cases z : b = a
    · subst z; rw [upd_same]; simp
    · rw [upd_ne z]; exact t.alive b q
end
section
variable {X : Cx} {RX : RXR} {W : WX}
def tLcD (K : PySem.W.Frag) (RX : RXR) (W : WX) (i : Ev → R (List D)) (t : D → Ev → Option Ev) (c : Ev → R Bool) (f : Ev → R D) (kp vs : List Nat) : TE :=
  tLc (tI K RX W i) (tG K kp t) (tT K RX (fun _ _ _ _ => False) c) (tE K RX (fun _ _ _ _ => False) f) vs
/-- the reading of a comprehension -/
theorem lc_ok {K : PySem.W.Frag} {i : Ev → R (List D)} {t : D → Ev → Option Ev} {c : Ev → R Bool} {f : Ev → R D} {kp vs : List Nat} {n : Nat} (hkp : kp = (List.range n).filter fun j => decide (j ∉ vs)) {σ : L2.St} {H : Hp} {Q : VK} (hn : σ.length = n)
    (q : tE K RX W (fLc i t c f vs) σ H Q) : tLcD K RX W i t c f kp vs σ H Q := by
  obtain ⟨P, ρ, FE, S, q⟩ := q
  refine ⟨P, ρ, FE, S, ?_⟩
  unfold fLc at q
  cases e : i ρ with
  | exc x ρ1 => simp only [e, R.bind] at q; exact q
  | stk => simp only [e, R.bind] at q
  | ok ds ρ1 =>
    simp only [e, R.bind] at q
    intro J P1 H1 FE1 S1 t1 wk A hA
    by_cases hc : immAt ρ1 vs = true ∧ ds.length ≤ sizeLine
    · simp only [if_pos hc] at q
      cases hl : loopC t c f vs ds [] (wipeE ρ1 vs) with
      | exc x ρ2 => simp only [hl] at q
      | stk => simp only [hl] at q
      | ok accF ρF =>
        simp only [hl] at q
        have nP1 : ¬ P1 A := fun z => S1.pin A z hA
        have nU1 : ¬ U FE1 A := fun ⟨j, z⟩ => (S1.fin j A z).1 hA
        have n0 : New P1 H1 P1 (upd H1 A (.lst [])) (fun b => b = A) := New.lst hA S1.pin
        have T0 : Tmp K P1 (upd H1 A (.lst [])) FE1 (.lst true []) (.ref A) (fun b => b = A) := n0.tmp S1 (.lstO (F' := E_) upd_same (fun _ => rfl) (fun b z => z.elim) .nil)
        refine ⟨fun k m H2 => m = ds.length - k ∧ k ≤ ds.length ∧ (∀ b o, P1 b → H1 b = some o → NT o → H2 b = some o) ∧ ∃ P2 ρ2 FE2 acc F2, Stt K P2 H2 ρ2 (wipe σ vs) FE2 ∧ Tmp K P2 H2 FE2 (.lst true acc) (.ref A) F2 ∧ Tr P1 H1 (U FE1) P2 H2 (fun b => U FE2 b ∨ F2 b) ∧
            acc.length ≤ k ∧ loopC t c f vs (ds.drop k) acc ρ2 = .ok accF ρF,
          ⟨ds.length, by simp, Nat.zero_le _, fun b o _ z => n0.same b o z, P1, wipeE ρ1 vs, FE1, [], fun b => b = A, (n0.stt S1).wipe vs, T0, n0.tr, Nat.zero_le _, by simpa using hl⟩, ?_⟩
        rintro k m H2 ⟨rfl, hk, kH, P2, ρ2, FE2, acc, F2, S2, T2, t2, ha, hq⟩
        have kP : ∀ b, P1 b → P2 b := t2.mono
        by_cases hlt : k < ds.length
        · have hd : ds[k]? = some ds[k] := List.getElem?_eq_getElem hlt
          obtain ⟨go, yl⟩ := wk.go P2 H2 k ds[k] S2.pin kP kH hd
          rw [List.drop_eq_getElem_cons hlt] at hq
          refine .inr ⟨go, fun H' => (∀ b o, P1 b → H1 b = some o → NT o → H' b = some o) ∧ ∃ P3 ρ3 FE3 acc3 F3, Stt K P3 H' ρ3 (wipe σ vs) FE3 ∧ Tmp K P3 H' FE3 (.lst true acc3) (.ref A) F3 ∧ Tr P1 H1 (U FE1) P3 H' (fun b => U FE3 b ∨ F3 b) ∧
              acc3.length ≤ k + 1 ∧ loopC t c f vs (ds.drop (k + 1)) acc3 ρ3 = .ok accF ρF, fun H' ⟨k1, z⟩ => ⟨ds.length - (k + 1), by omega, rfl, hlt, k1, z⟩, fun x H3 y => ?_⟩
          obtain ⟨P3, n3, r3⟩ := yl x H3 y
          have S3 := n3.stt S2
          have u3 : Tr P2 H2 (U FE2) P3 H3 (fun b => U FE2 b ∨ E_ b) := n3.tr
          have T3 := (T2.step S2 u3).1
          have t3 : Tr P1 H1 (U FE1) P3 H3 (fun b => U FE2 b ∨ F2 b) := (t2.seq u3).less fun b z => z.elim (fun z => .inl (.inl z)) .inr
          refine ⟨P3, ρ2, FE2, ds[k], E_, S3, ⟨r3, fun b z => z.elim⟩, ?_⟩
          simp only [loopC] at hq
          cases e1 : t ds[k] ρ2 with
          | none => simp only [e1] at hq; cases hq
          | some ρ4 =>
            simp only [e1] at hq
            intro σ4 P4 H4 FE4 S4 u4' k4
            have u4 : Tr P3 H3 (U FE2) P4 H4 (fun b => U FE4 b ∨ E_ b) := ⟨fun b o e n => u4'.frame b o e fun z => z.elim n False.elim, u4'.mono, fun b z => (u4'.back b z).imp id fun z => z.imp (fun z => z.elim id False.elim) id, fun b z => (u4'.sub b (z.elim id False.elim)).imp (fun z => z.elim id False.elim) id, u4'.alive⟩
            have T4 := (T3.step S3 u4).1
            have t4 : Tr P1 H1 (U FE1) P4 H4 (fun b => U FE4 b ∨ F2 b) := (t3.seq u4).less fun b z => z.elim (fun z => .inl (.inl z)) .inr
            have hw : wipe σ4 vs = wipe σ vs := by
              refine wipe_eq (k4.1.trans (wipe_length _ _)) fun j hj => ?_
              by_cases hj2 : j < n
              · rw [k4.2 j (by rw [hkp]; exact List.mem_filter.mpr ⟨List.mem_range.mpr hj2, decide_eq_true hj⟩), wipe_get hj]
              · have l4 : σ4.length = σ.length := k4.1.trans (wipe_length _ _)
                rw [List.getElem?_eq_none (by omega), List.getElem?_eq_none (by omega)]
            refine ⟨hw, P4, ρ4, FE4, S4, ?_⟩
            cases e2 : c ρ4 with
            | exc x ρ5 => simp only [e2] at hq; cases hq
            | stk => simp only [e2] at hq; cases hq
            | ok b ρ5 =>
              intro P5 H5 FE5 S5 u5'
              have u5 : Tr P4 H4 (U FE4) P5 H5 (fun b => U FE5 b ∨ E_ b) := u5'.less fun b z => z.elim id False.elim
              have T5 := (T4.step S4 u5).1
              have t5 : Tr P1 H1 (U FE1) P5 H5 (fun b => U FE5 b ∨ F2 b) := (t4.seq u5).less fun b z => z.elim (fun z => .inl (.inl z)) .inr
              cases b with
              | false =>
                simp only [e2] at hq
                exact ⟨fun b o p e => t5.frame b o e fun ⟨j, z⟩ => (S1.fin j b z).2 p, P5, wipeE ρ5 vs, FE5, acc, F2, S5.wipe2 hw, T5, t5, by omega, hq⟩
              | true =>
                simp only [e2] at hq
                refine ⟨P5, ρ5, FE5, S5, ?_⟩
                cases e3 : f ρ5 with
                | exc x ρ6 => simp only [e3] at hq; cases hq
                | stk => simp only [e3] at hq; cases hq
                | ok d ρ6 =>
                  simp only [e3] at hq
                  intro v P6 H6 FE6 F6 S6 T6 u6
                  obtain ⟨T7, dj⟩ := T5.step S5 u6
                  have t6 : Tr P1 H1 (U FE1) P6 H6 (fun b => U FE6 b ∨ (F2 b ∨ F6 b)) := (t5.seq u6).less fun b z => by
                    rcases z with z | z | z
                    · exact .inl (.inl z)
                    · exact .inr z
                    · exact .inl (.inr z)
                  obtain ⟨r7, o7⟩ := T7
                  cases r7 with
                  | @lstO _ vsa _ _ F' ea fA s rs =>
                    have nA6 := o7 A (fA rfl)
                    have nF6 : ¬ F6 A := fun z => dj A (fA rfl) z
                    have nF' : ¬ F' A := fun z => (s A z).2 rfl
                    have la : vsa.length < sizeLine := by
                      rw [← rls_len rs]
                      exact Nat.lt_of_le_of_lt ha (Nat.lt_of_lt_of_le hlt hc.2)
                    refine ⟨vsa, ea, la, fun b o p e => ?_, P6, wipeE ρ6 vs, FE6, acc ++ [d], fun b => F2 b ∨ F6 b, (S6.write ea .lst nA6.2.1 nA6.2.2).wipe2 hw, ⟨.lstO (F' := fun b => F' b ∨ F6 b) upd_same (fun z => .inl (fA z)) (fun b z => z.elim (fun z => ⟨.inl (s b z).1, (s b z).2⟩) fun z => ⟨.inr z, fun w => nF6 (by rw [← w]; exact z)⟩) ?_, fun b z => ?_⟩,
                      t6.write (.inr (.inl (fA rfl))), by rw [List.length_append, List.length_singleton]; omega, hq⟩
                    · rw [upd_ne]
                      · exact t6.frame b o e fun ⟨j, z⟩ => (S1.fin j b z).2 p
                      · intro w; subst w; exact nP1 p
                    · have mv : ∀ {F : AS} {d : D} {v : V}, Rl true K P6 H6 d v F → ¬ F A → Rl true K P6 (upd H6 A (.lst (vsa ++ [v]))) d v F := fun r nz => rl_mono r (fun _ q => q) (fun b o e q _ => by
                        rw [upd_ne]
                        · exact e
                        · intro w; subst w; exact (q rfl).elim nA6.2.1 nz) fun _ q => q
                      refine rls_snoc (F1 := F') (F2 := F6) (rls_mono rs (fun _ q => q) (fun b o e q _ => ?_) fun _ q => q) (mv T6.rl nF6) (fun b z => .inl z) (fun b z => .inr z) fun b z w => dj b (s b z).1 w
                      rw [upd_ne]
                      · exact e
                      · intro w; subst w; exact (q rfl).elim nA6.2.1 nF'
                    · have h : H6 b ≠ none ∧ ¬ P6 b ∧ ¬ U FE6 b := z.elim (o7 b) (T6.own b)
                      refine ⟨?_, h.2⟩
                      by_cases w : b = A
                      · subst w; rw [upd_same]; simp
                      · rw [upd_ne w]; exact h.1
        · have e : k = ds.length := by omega
          subst e
          rw [List.drop_length] at hq
          simp only [loopC] at hq
          cases hq
          have hU : ∀ b, U (fun j b => if j ∈ vs then False else FE2 j b) b → U FE2 b := fun b ⟨j, z⟩ => by
            have z : (if j ∈ vs then False else FE2 j b) := z
            by_cases hj : j ∈ vs
            · rw [if_pos hj] at z; exact z.elim
            · rw [if_neg hj] at z; exact ⟨j, z⟩
          refine .inl ⟨wk.stop H2 kH, q (.ref A) P2 H2 (fun j b => if j ∈ vs then False else FE2 j b) F2 ⟨S2.pin, fun j b z => ?_, fun j j' b z w => ?_, fun j d z => ?_, ?_, S2.tab⟩ ⟨T2.rl, fun b z => ⟨(T2.own b z).1, (T2.own b z).2.1, fun w => (T2.own b z).2.2 (hU b w)⟩⟩ ?_⟩
          · have z : (if j ∈ vs then False else FE2 j b) := z
            by_cases hj : j ∈ vs
            · rw [if_pos hj] at z; exact z.elim
            · rw [if_neg hj] at z; exact S2.fin j b z
          · have z : (if j ∈ vs then False else FE2 j b) := z
            have w : (if j' ∈ vs then False else FE2 j' b) := w
            by_cases hj : j ∈ vs
            · rw [if_pos hj] at z; exact z.elim
            · rw [if_neg hj] at z
              by_cases hj' : j' ∈ vs
              · rw [if_pos hj'] at w; exact w.elim
              · rw [if_neg hj'] at w; exact S2.dj j j' b z w
          · by_cases hj : j ∈ vs
            · have z1 := backE_in hj z
              obtain ⟨v, e1, r1⟩ := S1.rel j d z1
              refine ⟨v, e1, ?_⟩
              have hi : isImm d = true := by
                have := List.all_eq_true.mp hc.1 j hj
                simpa only [z1] using this
              exact rl_mono (z := true) (F := E_) (rl_imm r1 hi) kP (fun b o e p => kH b o ((p rfl).elim id False.elim) e) fun b z => z.elim
            · rw [backE_get hj] at z
              obtain ⟨v, e1, r1⟩ := S2.rel j d z
              rw [wipe_get hj] at e1
              exact ⟨v, e1, rl_mono r1 (fun _ q => q) (fun _ _ e _ _ => e) fun b z => by show (if j ∈ vs then False else FE2 j b); rw [if_neg hj]; exact z⟩
          · rw [backE_len]
            have := S2.len
            rw [wipe_length] at this
            exact this
          · exact t1.trans (t2.less fun b z => z.imp (hU b) id)
    · simp only [if_neg hc] at q
end
end Hap
namespace Hap
open PySem PySem.Spec PyProof.Rows L2
variable [TabC]
section
variable {X : Cx} {RX : RXR} {W : WX}
theorem de_lc {e : Expr} {i : Ev → R (List D)} {t : D → Ev → Option Ev} {c : Ev → R Bool} {f : Ev → R D} {kp vs : List Nat} (hkp : kp = (List.range X.N.length).filter fun j => decide (j ∉ vs))
    (h : PE X e (tLcD X.K RX W i t c f kp vs)) : DE X RX W e (fLc i t c f vs) := ⟨fun pins s σ H Q I q => h.run pins s σ H Q I (lc_ok hkp I.len q)⟩
theorem dts_nil : PTs X [] (tT X.K RX W fun ρ => .ok true ρ) := ⟨fun pins s σ H Q I ⟨P, ρ, FE, S, q⟩ => pts_nil.run pins s σ H Q I (q P H FE S Tr.refl)⟩
theorem dts_one {c : Expr} {f : Ev → R Bool} (h : DT X RX W c f) : PTs X [c] (tT X.K RX W f) := pts_one h
end
inductive RF where
  | rt (d : D) (outs : Ev)
  | exc (x : DX) (outs : Ev)
  | stk
abbrev Fn := List D → RF
def spD (K : PySem.W.Frag) (RX : RXR) (io : List Bool) (sem : Fn) : Sp := fun vs H Q E => vs.length = io.length ∧ ∃ P ds FA, Stt K P H (ds.map some) (vs.map some) FA ∧ (∀ i, io[i]? ≠ some true → ∀ b, ¬ FA i b) ∧ match sem ds with
  | .rt d outs => ∀ v P' H' FA' F, Stt K P' H' outs (vs.map some) FA' → Tmp K P' H' FA' d v F → Tr P H (U FA) P' H' (fun b => U FA' b ∨ F b) → Q v H'
  | .exc x outs => ∀ cls dx P' H' FA', Stt K P' H' outs (vs.map some) FA' → Tr P H (U FA) P' H' (U FA') → RX x P' H' cls dx → E cls dx H'
  | .stk => False
def outsOf : List Bool → Ev → Ev
  | [], _ => []
  | _ :: bs, [] => none :: outsOf bs []
  | b :: bs, o :: os => (if b = true then o else none) :: outsOf bs os
omit [TabC] in
theorem outsOf_len : ∀ (io : List Bool) (ρ : Ev), (outsOf io ρ).length = io.length
  | [], _ => rfl
  | _ :: bs, [] => congrArg (· + 1) (outsOf_len bs [])
  | _ :: bs, _ :: os => congrArg (· + 1) (outsOf_len bs os)
omit [TabC] in
theorem outsOf_get : ∀ {io : List Bool} {ρ : Ev} {i : Nat} {d : D}, (outsOf io ρ)[i]? = some (some d) → io[i]? = some true ∧ ρ[i]? = some (some d)
  | [], _, _, _, h => by simp [outsOf] at h
  | _ :: bs, [], 0, _, h => by simp [outsOf] at h
  | _ :: bs, [], i + 1, d, h => by
    simp only [outsOf, List.getElem?_cons_succ] at h
    have := outsOf_get h
    simp at this
  | b :: bs, o :: os, 0, d, h => by
    simp only [outsOf, List.getElem?_cons_zero] at h
    cases b with
    | true => simp only [if_pos] at h; exact ⟨rfl, h⟩
    | false => simp at h
  | b :: bs, o :: os, i + 1, d, h => by
    simp only [outsOf, List.getElem?_cons_succ] at h
    obtain ⟨h1, h2⟩ := outsOf_get h
    exact ⟨by simpa using h1, by simpa using h2⟩
/-- what a def does, by its body -/
def semOf (io : List Bool) (n : Nat) (g : Ev → RS) : Fn := fun ds => match g (ds.map some ++ List.replicate (n - ds.length) none) with
  | .nx ρ => .rt .non (outsOf io ρ)
  | .rt d ρ => .rt d (outsOf io ρ)
  | .exc x ρ => .exc x (outsOf io ρ)
  | _ => .stk
/-- the places of what is changed -/
def kpOf (io : List Bool) : List Nat := (List.range io.length).filter fun i => io[i]? == some true
omit [TabC] in
theorem kpOf_in {io : List Bool} {i : Nat} (h : io[i]? = some true) : i ∈ kpOf io := by
  refine List.mem_filter.mpr ⟨List.mem_range.mpr (List.getElem?_eq_some_iff.mp h).1, ?_⟩
  rw [h]; rfl
section
variable {P : Program} {w : World} {K : PySem.W.Frag} {mg : Str → Option Value} {base : Heap} {RX : RXR}
omit [TabC] in
/-- around a body nothing is let out -/
theorem takesN0 {X : Cx} : L2N.Takes X (fun _ _ _ _ => False) := fun _ _ x => by
  obtain ⟨_, _, _, _, _, _, _, _, _, _, _, _, _, _, _, _, z⟩ := x
  exact z.elim
theorem fn_okL {x qual : Str} {st : Stmt} {f : Addr} {oc : Value} {od an : Option Addr} {kV doc pm cdv ct : Value} {osl : Array (Option Value)} {N ps : List Str} {k n : Nat} {io : List Bool} {g : Ev → RS} (lk : K.lookup f = some ⟨oc, od, .func (PySem.W.fnOf x qual (defArgs st) (defBody st) (defScope st) .none kV doc pm an cdv ct), osl⟩) (hcd : PySem.W.codeIn K cdv qual = true) (S : FnScope N ps (defScope st)) (hl : ps.length = io.length) (hn : N.length = n)
    (body : ∀ (A : Around) (outer : List Env) (s : Shared) (H : Hp) (E : XK), Room k (A.deeper (envOfC qual (defScope st) s.heap.objs.size f cdv)) →
      DSs (cxOf (L2N.CX P w) P w K mg base N qual (defScope st) f cdv A outer s H E) RX (fun cls d _ H => E cls d H) (kpOf io) (defBody st) g) :
    FnOk P w K mg base (L2N.CX P w) (k + 1) f (PySem.W.fnOf x qual (defArgs st) (defBody st) (defScope st) .none kV doc pm an cdv ct) ps (spD K RX io (semOf io n g)) := by
  refine fn_of lk hcd S (fun vs H Q E h => h.1.trans hl.symm) fun A outer s H vs Q E hr h => ⟨_, body A outer s H E hr, ?_⟩
  obtain ⟨hlen, Pp, ds, FA, St0, hio, h⟩ := h
  have ld : ds.length = vs.length := by simpa using St0.len
  have lps : ps.length ≤ N.length := by
    have := congrArg List.length S.pre
    rw [List.length_take] at this
    omega
  have lvn : vs.length ≤ n := by omega
  refine ⟨Pp, ds.map some ++ List.replicate (n - ds.length) none, FA, ⟨St0.pin, St0.fin, St0.dj, fun i d e => ?_, ?_, St0.tab⟩, ?_⟩
  · by_cases hi : i < ds.length
    · rw [List.getElem?_append_left (by simpa using hi)] at e
      obtain ⟨v, e1, r⟩ := St0.rel i d e
      refine ⟨v, ?_, r⟩
      unfold L2.start
      rw [List.getElem?_append_left (by rw [List.length_map]; omega)]
      exact e1
    · rw [List.getElem?_append_right (by simpa using hi), List.getElem?_replicate] at e
      split at e <;> cases e
  · unfold L2.start
    simp only [List.length_append, List.length_map, List.length_replicate]
    omega
  have back : ∀ {σ' : L2.St} {P' : AS} {H' : Hp} {FE' : FP} {ρ' : Ev}, Stt K P' H' ρ' σ' FE' → Kp (kpOf io) (L2.start N vs) σ' → Stt K P' H' (outsOf io ρ') (vs.map some) FE' := by
    intro σ' P' H' FE' ρ' S' kk
    refine ⟨S'.pin, S'.fin, S'.dj, fun i d e => ?_, ?_, S'.tab⟩
    · obtain ⟨h1, h2⟩ := outsOf_get e
      obtain ⟨v, e1, r⟩ := S'.rel i d h2
      refine ⟨v, ?_, r⟩
      rw [kk.2 i (kpOf_in h1)] at e1
      unfold L2.start at e1
      have hi : i < vs.length := by
        have := (List.getElem?_eq_some_iff.mp h1).1
        omega
      rw [List.getElem?_append_left (by simpa using hi)] at e1
      exact e1
    · rw [outsOf_len, List.length_map, hlen]
  unfold semOf at h
  cases e : g (ds.map some ++ List.replicate (n - ds.length) none) with
  | nx ρ' => simp only [e] at h; exact fun σ' P' H' FE' S' t k' => h .non P' H' FE' E_ (back S' k') ⟨.non, fun b z => z.elim⟩ (t.less fun b z => z.elim id False.elim)
  | rt d ρ' => simp only [e] at h; exact fun v σ' P' H' FE' F' S' T' t k' => h v P' H' FE' F' (back S' k') T' t
  | exc x ρ' => simp only [e] at h; exact fun cls dx σ' P' H' FE' S' t k' r => h cls dx P' H' FE' (back S' k') t r
  | bk ρ' => simp only [e] at h
  | ct ρ' => simp only [e] at h
  | stk => simp only [e] at h
theorem fn_ok {x qual : Str} {st : Stmt} {f : Addr} {fd : FuncData} {N ps : List Str} {k n : Nat} {io : List Bool} {g : Ev → RS} (F : Fun K x qual st f fd) (S : FnScope N ps (defScope st)) (hl : ps.length = io.length) (hn : N.length = n)
    (body : ∀ (cdv : Value) (A : Around) (outer : List Env) (s : Shared) (H : Hp) (E : XK), Room k (A.deeper (envOfC qual (defScope st) s.heap.objs.size f cdv)) →
      DSs (cxOf (L2N.CX P w) P w K mg base N qual (defScope st) f cdv A outer s H E) RX (fun cls d _ H => E cls d H) (kpOf io) (defBody st) g) :
    FnOk P w K mg base (L2N.CX P w) (k + 1) f fd ps (spD K RX io (semOf io n g)) := by
  obtain ⟨oc, od, kV, doc, pm, an, cdv, ct, osl, rfl, lk, hcd⟩ := F.ex
  exact fn_okL lk hcd S hl hn (body cdv)
end
def callR (r : RF) (ρ : Ev) (upd : Ev → Ev) : R D := match r with
  | .rt d outs => .ok d (upd outs)
  | .exc x outs => .exc x (upd outs)
  | .stk => .stk
def fCall (n : Nat) (sem : Fn) (fa : Ev → R (List D)) : Ev → R D := fun ρ => (fa ρ).bind fun ds ρ1 => if ds.length = n then callR (sem (frzs ds)) ρ1 fun _ => ρ1 else .stk
def hd0 (outs : Ev) : Option D := match outs with
  | o :: _ => o
  | [] => none
/-- the first argument is a thing of one's own, at slot j -/
def fCallIO (j n : Nat) (sem : Fn) (fa : Ev → R (List D)) : Ev → R D := fun ρ => match ρ[j]? with
  | some (some _) => (fa ρ).bind fun ds ρ1 => (match ρ1[j]? with
    | some (some d0) => if ds.length + 1 = n then callR (sem (d0 :: frzs ds)) ρ1 fun outs => ρ1.set j (hd0 outs) else .stk
    | _ => .stk)
  | _ => .stk
section
variable {X : Cx} {RX : RXR} {W : WX} {k n : Nat} {f : Addr} {fd : FuncData} {ps : List Str} {sem : Fn} {x : Str} {p pos : Pos} {e : Expr} {es : List Expr} {fa : Ev → R (List D)}
omit [TabC] in
theorem frzs_len : ∀ ds : List D, (frzs ds).length = ds.length
  | [] => rfl
  | _ :: ds => congrArg (· + 1) (frzs_len ds)
theorem de_call (F : FnOk X.prog X.w X.K X.mg X.base (L2N.CX X.prog X.w) k f fd ps (spD X.K RX (List.replicate n false) sem)) (hr : Room k X.A) (hg : Gl X x) (hm : X.mg x = some (.ref f)) (hk : PySem.W.keepIn X.K (.ref f) = true) (hb : Binds X.K fd ps []) (tk : L2N.Takes X W)
    (ha : DA X RX W (e :: es) fa) (hdb : (x == ("__debug__" : Str)) = false := by decide)
    (he : starEach (e :: es) X.env = (false, eval e X.env) :: starEach es X.env := by rfl) (hpl : (backTo pos (starEach es X.env)).any (·.1) = false := by rfl) : DE X RX W (.Call (.Name x p) (e :: es) [] pos) (fCall n sem fa) := by
  refine pe_imp (pe_callS F hr hg hm hk hb (fun σ => L2N.passAt tk σ) ha hdb he hpl) fun σ H Q q => ?_
  obtain ⟨P, ρ, FE, S, q⟩ := q
  refine ⟨P, ρ, FE, S, ?_⟩
  unfold fCall at q
  cases e1 : fa ρ with
  | exc x ρ1 => simp only [e1, R.bind] at q; exact q
  | stk => simp only [e1, R.bind] at q
  | ok ds ρ1 =>
    simp only [e1, R.bind] at q
    intro vs P1 H1 FE1 F1 S1 T1 t1
    by_cases hl : ds.length = n
    · simp only [if_pos hl] at q
      have lv := rls_len T1.rl
      have Sc := S1.give fun b z => ⟨(T1.own b z).1, (T1.own b z).2.2⟩
      refine ⟨by rw [List.length_replicate]; omega, fun b => P1 b ∨ F1 b, frzs ds, fun _ => E_, ⟨Sc.pin, fun i b z => z.elim, fun i j b z => z.elim, fun i d e2 => ?_, ?_, Sc.tab⟩, fun i _ b z => z.elim, ?_⟩
      · rw [List.getElem?_map] at e2
        cases e3 : (frzs ds)[i]? with
        | none => rw [e3] at e2; cases e2
        | some d' =>
          rw [e3] at e2; cases e2
          obtain ⟨v, e4, r⟩ := rls_get (rls_frz (z := true) (F' := E_) T1.rl (fun b z => Or.inl z) fun b z => Or.inr z) e3
          exact ⟨v, by rw [List.getElem?_map, e4]; rfl, r⟩
      · rw [List.length_map, List.length_map, frzs_len]; exact lv
      · cases e2 : sem (frzs ds) with
        | stk => simp only [e2, callR] at q
        | rt d outs =>
          simp only [e2, callR] at q
          intro v P2 H2 FA' F2 S2 T2 t2
          have n2 : New (fun b => P1 b ∨ F1 b) H1 P2 H2 F2 := ⟨fun b o e => t2.frame b o e fun ⟨_, z⟩ => z, t2.alive, fun _ => S2.tab, t2.mono, fun b z => (t2.back b z).imp id fun w => ⟨w.elim (fun ⟨_, z⟩ => z.elim) id, S2.pin b z⟩, fun b z => ⟨(t2.sub b (.inr z)).elim (fun ⟨_, z⟩ => z.elim) id, (T2.own b z).1, (T2.own b z).2.1⟩⟩
          exact q v P2 H2 FE1 F2 (n2.stt Sc) (n2.tmp Sc T2.rl) (t1.give.trans n2.tr)
        | exc xx outs =>
          simp only [e2, callR] at q
          intro cls dx P2 H2 FA' S2 t2 r
          have n2 : New (fun b => P1 b ∨ F1 b) H1 P2 H2 E_ := ⟨fun b o e => t2.frame b o e fun ⟨_, z⟩ => z, t2.alive, fun _ => S2.tab, t2.mono, fun b z => (t2.back b z).imp id fun w => ⟨w.elim (fun ⟨_, z⟩ => z.elim) id, S2.pin b z⟩, fun b z => z.elim⟩
          exact q cls dx P2 H2 FE1 (n2.stt Sc) (t1.give.trans n2.tr.less') r
    · simp only [if_neg hl] at q
theorem de_callIO {j : Nat} {m : Nat} (F : FnOk X.prog X.w X.K X.mg X.base (L2N.CX X.prog X.w) k f fd ps (spD X.K RX (true :: List.replicate m false) sem)) (hr : Room k X.A) (hg : Gl X x) (hm : X.mg x = some (.ref f)) (hk : PySem.W.keepIn X.K (.ref f) = true) (hb : Binds X.K fd ps []) (tk : L2N.Takes X W)
    (hv : PE X e (tVar j)) (ha : DA X RX W es fa) (hdb : (x == ("__debug__" : Str)) = false := by decide)
    (he : starEach (e :: es) X.env = (false, eval e X.env) :: starEach es X.env := by rfl) (hpl : (backTo pos (starEach es X.env)).any (·.1) = false := by rfl) : DE X RX W (.Call (.Name x p) (e :: es) [] pos) (fCallIO j (m + 1) sem fa) := by
  refine pe_imp (pe_callS F hr hg hm hk hb (fun σ => L2N.passAt tk σ) (pa_cons hv ha he) hdb he hpl) fun σ H Q q => ?_
  obtain ⟨P, ρ, FE, S, q⟩ := q
  unfold fCallIO at q
  cases e0 : ρ[j]? with
  | none => simp only [e0] at q
  | some o =>
    cases o with
    | none => simp only [e0] at q
    | some dd =>
    simp only [e0] at q
    obtain ⟨v0, ev0, _⟩ := S.rel j dd e0
    refine ⟨v0, ev0, P, ρ, FE, S, ?_⟩
    cases e1 : fa ρ with
    | exc x ρ1 => simp only [e1, R.bind] at q; exact q
    | stk => simp only [e1, R.bind] at q
    | ok ds ρ1 =>
      simp only [e1, R.bind] at q
      intro vs P1 H1 FE1 F1 S1 T1 t1
      cases e5 : ρ1[j]? with
      | none => simp only [e5] at q
      | some o =>
        cases o with
        | none => simp only [e5] at q
        | some d0 =>
        simp only [e5] at q
        by_cases hl : ds.length + 1 = m + 1
        · simp only [if_pos hl] at q
          have lv := rls_len T1.rl
          have Sc := S1.give fun b z => ⟨(T1.own b z).1, (T1.own b z).2.2⟩
          obtain ⟨v0', ev0', r0⟩ := Sc.rel j d0 e5
          rw [ev0] at ev0'; cases ev0'
          have nE : ∀ b, U (fun i b => i = 0 ∧ FE1 j b) b → FE1 j b := fun b ⟨_, z⟩ => z.2
          have Stc : Stt X.K (fun b => P1 b ∨ F1 b) H1 ((d0 :: frzs ds).map some) ((v0 :: vs).map some) (fun i b => i = 0 ∧ FE1 j b) := by
            refine ⟨Sc.pin, fun i b z => Sc.fin j b z.2, fun i i' b z w => z.1.trans w.1.symm, fun i d e2 => ?_, ?_, Sc.tab⟩
            · cases i with
              | zero =>
                simp only [List.map_cons, List.getElem?_cons_zero] at e2 ⊢
                cases e2
                exact ⟨v0, rfl, rl_mono r0 (fun _ q => q) (fun _ _ e _ _ => e) fun b z => by first | exact ⟨rfl, z⟩ | exact ⟨trivial, z⟩⟩
              | succ i =>
                simp only [List.map_cons, List.getElem?_cons_succ] at e2 ⊢
                rw [List.getElem?_map] at e2
                cases e3 : (frzs ds)[i]? with
                | none => rw [e3] at e2; cases e2
                | some d' =>
                  rw [e3] at e2; cases e2
                  obtain ⟨v, e4, r⟩ := rls_get (rls_frz (z := true) (F' := E_) T1.rl (fun b z => Or.inl z) fun b z => Or.inr z) e3
                  exact ⟨v, by rw [List.getElem?_map, e4]; rfl, rl_mono r (fun _ q => q) (fun _ _ e _ _ => e) fun b z => z.elim⟩
            · simp only [List.length_map, List.length_cons, frzs_len]; omega
          -- the state behind the call
          have after : ∀ {P2 : AS} {H2 : Hp} {FA' : FP} {F2 : AS} {outs : Ev}, Stt X.K P2 H2 outs ((v0 :: vs).map some) FA' → Tr (fun b => P1 b ∨ F1 b) H1 (U fun i b => i = 0 ∧ FE1 j b) P2 H2 (fun b => U FA' b ∨ F2 b) → (∀ b, F2 b → ¬ U FA' b) →
              Stt X.K P2 H2 (ρ1.set j (hd0 outs)) σ (fun i b => (i = j ∧ FA' 0 b) ∨ (i ≠ j ∧ FE1 i b)) ∧ Tr P H (U FE) P2 H2 (fun b => U (fun i b => (i = j ∧ FA' 0 b) ∨ (i ≠ j ∧ FE1 i b)) b ∨ F2 b) ∧
                ∀ b, F2 b → ¬ U (fun i b => (i = j ∧ FA' 0 b) ∨ (i ≠ j ∧ FE1 i b)) b := by
            intro P2 H2 FA' F2 outs S2 t2 hd2
            have keep : ∀ b o, H1 b = some o → ¬ FE1 j b → NT o → H2 b = some o := fun b o e n => t2.frame b o e fun z => n (nE b z)
            have new0 : ∀ b, FA' 0 b → FE1 j b ∨ H1 b = none := fun b z => (t2.sub b (.inl ⟨0, z⟩)).imp (nE b) id
            have newF : ∀ b, F2 b → FE1 j b ∨ H1 b = none := fun b z => (t2.sub b (.inr z)).imp (nE b) id
            refine ⟨⟨S2.pin, fun i b z => ?_, fun i i' b z w => ?_, fun i d e2 => ?_, by simpa using S1.len, S2.tab⟩, ⟨fun b o e n nt => ?_, fun b z => t2.mono b (.inl (t1.mono b z)), fun b z => ?_, fun b z => ?_, fun b z => t2.alive b (t1.alive b z)⟩, fun b z w => ?_⟩
            · rcases z with z | z
              · exact S2.fin 0 b z.2
              · obtain ⟨h1, h2⟩ := Sc.fin i b z.2
                refine ⟨t2.alive b h1, fun w => ?_⟩
                rcases t2.back b w with w | w | w
                · exact h2 w
                · exact z.1 (S1.dj i j b z.2 (nE b w))
                · exact h1 w
            · rcases z with z | z <;> rcases w with w | w
              · exact z.1.trans w.1.symm
              · exact ((new0 b z.2).elim (fun q => w.1 (S1.dj _ _ b w.2 q)) fun q => (S1.fin _ b w.2).1 q).elim
              · exact ((new0 b w.2).elim (fun q => z.1 (S1.dj _ _ b z.2 q)) fun q => (S1.fin _ b z.2).1 q).elim
              · exact S1.dj i i' b z.2 w.2
            · by_cases hi : i = j
              · subst hi
                have hlt : i < ρ1.length := (List.getElem?_eq_some_iff.mp e5).1
                rw [List.getElem?_set_self hlt] at e2
                have e3 : hd0 outs = some d := Option.some.inj e2
                cases outs with
                | nil => exact (nomatch (show (none : Option D) = some d from e3))
                | cons o os =>
                  obtain ⟨v, e4, r⟩ := S2.rel 0 d (by show some o = some (some d); rw [show o = some d from e3])
                  simp only [List.map_cons, List.getElem?_cons_zero] at e4
                  cases e4
                  exact ⟨v0, ev0, rl_mono r (fun _ q => q) (fun _ _ e _ _ => e) fun b z => .inl ⟨rfl, z⟩⟩
              · rw [List.getElem?_set_ne (Ne.symm hi)] at e2
                obtain ⟨v, e4, r⟩ := S1.rel i d e2
                refine ⟨v, e4, rl_mono r (fun b z => t2.mono b (.inl z)) (fun b o e q => keep b o e fun z => ?_) fun b z => .inr ⟨hi, z⟩⟩
                rcases q rfl with q | q
                · exact (S1.fin j b z).2 q
                · exact hi (S1.dj i j b q z)
            · refine t2.frame b o (t1.frame b o e n nt) (fun z => ?_) nt
              exact (t1.sub b (.inl ⟨j, nE b z⟩)).elim n fun q => by rw [e] at q; cases q
            · rcases t2.back b z with z | z | z
              · rcases z with z | z
                · exact t1.back b z
                · exact (t1.sub b (.inr z)).elim (fun q => .inr (.inl q)) fun q => .inr (.inr q)
              · exact (t1.sub b (.inl ⟨j, nE b z⟩)).elim (fun q => .inr (.inl q)) fun q => .inr (.inr q)
              · refine .inr (.inr ?_)
                cases e : H b with
                | none => rfl
                | some o => exact absurd z (t1.alive b (by rw [e]; simp))
            · have up : FE1 j b ∨ H1 b = none → U FE b ∨ H b = none := fun q => q.elim (fun q => t1.sub b (.inl ⟨j, q⟩)) fun q => by
                refine .inr ?_
                cases e : H b with
                | none => rfl
                | some o => exact absurd q (t1.alive b (by rw [e]; simp))
              rcases z with ⟨i, z | z⟩ | z
              · exact up (new0 b z.2)
              · exact t1.sub b (.inl ⟨i, z.2⟩)
              · exact up (newF b z)
            · obtain ⟨i, w | w⟩ := w
              · exact hd2 b z ⟨0, w.2⟩
              · exact (newF b z).elim (fun q => w.1 (S1.dj _ _ b w.2 q)) fun q => (S1.fin _ b w.2).1 q
          refine ⟨by simp only [List.length_cons, List.length_replicate]; omega, fun b => P1 b ∨ F1 b, d0 :: frzs ds, _, Stc, fun i hi b z => ?_, ?_⟩
          · rw [z.1] at hi; exact hi rfl
          · cases e2 : sem (d0 :: frzs ds) with
            | stk => simp only [e2, callR] at q
            | rt d outs =>
              simp only [e2, callR] at q
              intro v P2 H2 FA' F2 S2 T2 t2
              obtain ⟨A1, A2, A3⟩ := after S2 t2 fun b z => (T2.own b z).2.2
              exact q v P2 H2 _ F2 A1 ⟨T2.rl, fun b z => ⟨(T2.own b z).1, (T2.own b z).2.1, A3 b z⟩⟩ A2
            | exc xx outs =>
              simp only [e2, callR] at q
              intro cls dx P2 H2 FA' S2 t2 r
              obtain ⟨A1, A2, A3⟩ := after (F2 := E_) S2 (t2.less fun b z => z.elim id False.elim) fun b z => z.elim
              exact q cls dx P2 H2 _ A1 A2.less' r
        · simp only [if_neg hl] at q
end
end Hap
namespace Hap
open PySem PySem.Spec PyProof.Rows L2
variable [TabC]
def asB (d : D) (ρ : Ev) : R Bool := match d with
  | .bl b => .ok b ρ
  | _ => .stk
def fTb (f : Ev → R D) : Ev → R Bool := fun ρ => (f ρ).bind asB
def fTv (f : Ev → Option D) : Ev → R Bool := fun ρ => match f ρ with
  | some (.bl b) => .ok b ρ
  | _ => .stk
def fAnd (f g : Ev → R Bool) : Ev → R Bool := fun ρ => (f ρ).bind fun b ρ1 => if b = true then g ρ1 else .ok false ρ1
def fOr (f g : Ev → R Bool) : Ev → R Bool := fun ρ => (f ρ).bind fun b ρ1 => if b = true then .ok true ρ1 else g ρ1
def fNot (f : Ev → R Bool) : Ev → R Bool := fun ρ => (f ρ).bind fun b ρ1 => .ok (!b) ρ1
/-- and, or, not as values -/
def fAndD (f g : Ev → R D) : Ev → R D := fun ρ => (f ρ).bind fun d ρ1 => match d with
  | .bl b => if b = true then g ρ1 else .ok (.bl false) ρ1
  | _ => .stk
def fOrD (f g : Ev → R D) : Ev → R D := fun ρ => (f ρ).bind fun d ρ1 => match d with
  | .bl b => if b = true then .ok (.bl true) ρ1 else g ρ1
  | _ => .stk
def fNotD (f : Ev → R D) : Ev → R D := fun ρ => (f ρ).bind fun d ρ1 => match d with
  | .bl b => .ok (.bl (!b)) ρ1
  | _ => .stk
def fIfE (c : Ev → R Bool) (f g : Ev → R D) : Ev → R D := fun ρ => (c ρ).bind fun b ρ1 => if b = true then f ρ1 else g ρ1
section
variable {K : PySem.W.Frag} {RX : RXR} {W : WX} {σ : L2.St} {H : Hp}
theorem t_val {f : Ev → R D} {Q : Bool → Hp → Prop} (h : tT K RX W (fTb f) σ H Q) : tE K RX W f σ H (fun x H' => ∃ k, x = .bl k ∧ Q k H') := by
  obtain ⟨P, ρ, FE, S, h⟩ := h
  refine ⟨P, ρ, FE, S, ?_⟩
  unfold fTb at h
  cases e : f ρ with
  | ok d ρ1 =>
    simp only [e, R.bind] at h
    cases d with
    | bl b =>
      simp only [asB] at h
      intro v P1 H1 FE1 F1 S1 T1 t1
      exact ⟨b, rl_bl T1.rl, h P1 H1 FE1 S1 t1.less'⟩
    | _ => simp only [asB] at h
  | exc x ρ1 => simp only [e, R.bind] at h; exact h
  | stk => simp only [e, R.bind] at h
theorem t_valV {f : Ev → Option D} {Q : Bool → Hp → Prop} (h : tT K RX W (fTv f) σ H Q) : tV K f σ H (fun x H' => ∃ k, x = .bl k ∧ Q k H') := by
  obtain ⟨P, ρ, FE, S, h⟩ := h
  refine ⟨P, ρ, FE, S, ?_⟩
  unfold fTv at h
  cases e : f ρ with
  | none => simp only [e] at h
  | some d =>
    cases d with
    | bl b =>
      simp only [e] at h
      intro v P1 H1 n1 r1
      exact ⟨b, rl_bl r1, h P1 H1 FE (n1.stt S) n1.tr.less'⟩
    | _ => simp only [e] at h
end
section
variable {X : Cx} {RX : RXR} {W : WX} {a b c : Expr} {pos : Pos}
abbrev DW (X : Cx) (RX : RXR) (W : WX) (e : Expr) (f : Ev → R Bool) : Prop := PW X e (tT X.K RX W f)
theorem dt_val {f : Ev → R D} (h : DE X RX W a f) (he : ∀ whole, isTrue a X.env whole = (do let v ← whole; standAt a.pos; holding [v] (truthy v)) := by intro _; rfl) : DT X RX W a (fTb f) :=
  pt_imp (pt_val h he) fun σ H Q q => t_val q
theorem dt_valV {f : Ev → Option D} (h : DV X a f) (he : ∀ whole, isTrue a X.env whole = (do let v ← whole; standAt a.pos; holding [v] (truthy v)) := by intro _; rfl) : DT X RX W a (fTv f) :=
  pt_imp (pt_val h he) fun σ H Q q => t_valV q
theorem dt_cmp {op : CmpOp} {r : R2} {g : D → D → Option D} {f k : Ev → R D} (ho : OpR X (compareOp op) r) (hv : VOp2 X.K r g) (ha : DE X RX W a f) (hb : DE X RX W b k) (hm : behindInMarks op b = false) : DT X RX W (.Compare a [op] [b] pos) (fTb (fOp2 g f k)) :=
  pt_imp (pt_cmpR ho ha hb hm) fun σ H Q q => e_op2 hv (t_val q)
theorem dt_cmpV {op : CmpOp} {r : R2} {g : D → D → Option D} {f k : Ev → Option D} (ho : OpR X (compareOp op) r) (hv : VOp2 X.K r g) (ha : DV X a f) (hb : DV X b k) (hm : behindInMarks op b = false) : DT X RX W (.Compare a [op] [b] pos) (fTv (vOp2 g f k)) :=
  pt_imp (pt_cmpR ho ha hb hm) fun σ H Q q => v_op2 hv (t_valV q)
theorem dv_cmp {op : CmpOp} {r : R2} {g : D → D → Option D} {f k : Ev → Option D} (ho : OpR X (compareOp op) r) (hv : VOp2 X.K r g) (ha : DV X a f) (hb : DV X b k) (hm : behindInMarks op b = false) : DV X (.Compare a [op] [b] pos) (vOp2 g f k) :=
  pe_imp (pe_cmpR ho ha hb hm) fun σ H Q q => v_op2 hv q
theorem de_cmpEV {op : CmpOp} {r : R2} {g : D → D → Option D} {f : Ev → R D} {k : Ev → Option D} (ho : OpR X (compareOp op) r) (hv : VOp2 X.K r g) (ha : DE X RX W a f) (hb : DV X b k) (hm : behindInMarks op b = false) : DE X RX W (.Compare a [op] [b] pos) (fOp2V g f k) :=
  pe_imp (pe_cmpR ho ha hb hm) fun σ H Q q => e_op2V hv q
theorem de_op {op : Operator} {r : R2} {g : D → D → Option D} {f k : Ev → R D} (ho : OpR X (binaryOp op) r) (hv : VOp2 X.K r g) (ha : DE X RX W a f) (hb : DE X RX W b k) : DE X RX W (.BinOp a op b pos) (fOp2 g f k) :=
  pe_imp (pe_op ho ha hb) fun σ H Q q => e_op2 hv q
theorem dv_op {op : Operator} {r : R2} {g : D → D → Option D} {f k : Ev → Option D} (ho : OpR X (binaryOp op) r) (hv : VOp2 X.K r g) (ha : DV X a f) (hb : DV X b k) : DV X (.BinOp a op b pos) (vOp2 g f k) :=
  pe_imp (pe_op ho ha hb) fun σ H Q q => v_op2 hv q
theorem de_opEV {op : Operator} {r : R2} {g : D → D → Option D} {f : Ev → R D} {k : Ev → Option D} (ho : OpR X (binaryOp op) r) (hv : VOp2 X.K r g) (ha : DE X RX W a f) (hb : DV X b k) : DE X RX W (.BinOp a op b pos) (fOp2V g f k) :=
  pe_imp (pe_op ho ha hb) fun σ H Q q => e_op2V hv q
theorem dv_un {op : UnaryOp} {r : V → Hp → VK → Prop} {g : D → Option D} {f : Ev → Option D} (ho : UnR X (unaryOp op) r) (hv : VOp1 X.K r g) (ha : DV X a f) : DV X (.UnaryOp op a pos) (vOp1 g f) :=
  pe_imp (pe_un ho ha) fun σ H Q q => v_op1 hv q
theorem de_ix {r : R2} {g : D → D → Option D} {f k : Ev → R D} (ho : IxR X r) (hv : VOp2 X.K r g) (ha : DE X RX W a f) (hb : DE X RX W b k) (hs : PlainIx b) : DE X RX W (.Subscript a b pos) (fOp2 g f k) :=
  pe_imp (pe_ix ho ha hb hs) fun σ H Q q => e_op2 hv q
theorem de_callB {x : Str} {p : Pos} {e : Expr} {es : List Expr} {r : List V → Hp → VK → Prop} {g : List D → Option D} {f : Ev → R (List D)} (h : PE X (.Call (.Name x p) (e :: es) [] pos) (tCB r (tA X.K RX W f))) (hv : VOpN X.K r g) : DE X RX W (.Call (.Name x p) (e :: es) [] pos) (fOpN g f) :=
  pe_imp h fun σ H Q q => e_opN hv q
theorem dv_callB {x : Str} {p : Pos} {e : Expr} {es : List Expr} {r : List V → Hp → VK → Prop} {g : List D → Option D} {f : Ev → Option (List D)} (h : PE X (.Call (.Name x p) (e :: es) [] pos) (tCB r (tAV X.K f))) (hv : VOpN X.K r g) : DV X (.Call (.Name x p) (e :: es) [] pos) (vOpN g f) :=
  pe_imp h fun σ H Q q => v_opN hv q
theorem dw_and1 {f : Ev → R Bool} (h : DT X RX W a f) : DW X RX W (.BoolOp .And [a] pos) f := pw_and1 h
theorem dw_or1 {f : Ev → R Bool} (h : DT X RX W a f) : DW X RX W (.BoolOp .Or [a] pos) f := pw_or1 h
theorem dw_and {rest : List Expr} {f g : Ev → R Bool} (h : DT X RX W a f) (k : DW X RX W (.BoolOp .And (b :: rest) pos) g) : DW X RX W (.BoolOp .And (a :: b :: rest) pos) (fAnd f g) := by
  refine pw_imp (pw_and h k) fun σ H Q q => ?_
  obtain ⟨P, ρ, FE, S, q⟩ := q
  refine ⟨P, ρ, FE, S, ?_⟩
  unfold fAnd at q
  cases e : f ρ with
  | ok d ρ1 =>
    simp only [e, R.bind] at q
    intro P1 H1 FE1 S1 t1
    cases d with
    | false => simp only [if_neg Bool.false_ne_true] at q ⊢; exact q P1 H1 FE1 S1 t1
    | true =>
      simp only [if_pos] at q ⊢
      refine ⟨P1, ρ1, FE1, S1, ?_⟩
      cases e2 : g ρ1 with
      | ok b ρ2 => simp only [e2] at q; exact fun P2 H2 FE2 S2 t2 => q P2 H2 FE2 S2 (t1.trans t2)
      | exc x ρ2 => simp only [e2] at q; exact fun cls dx P2 H2 FE2 S2 t2 r => q cls dx P2 H2 FE2 S2 (t1.trans t2) r
      | stk => simp only [e2] at q
  | exc x ρ1 => simp only [e, R.bind] at q; exact q
  | stk => simp only [e, R.bind] at q
theorem dw_or {rest : List Expr} {f g : Ev → R Bool} (h : DT X RX W a f) (k : DW X RX W (.BoolOp .Or (b :: rest) pos) g) : DW X RX W (.BoolOp .Or (a :: b :: rest) pos) (fOr f g) := by
  refine pw_imp (pw_or h k) fun σ H Q q => ?_
  obtain ⟨P, ρ, FE, S, q⟩ := q
  refine ⟨P, ρ, FE, S, ?_⟩
  unfold fOr at q
  cases e : f ρ with
  | ok d ρ1 =>
    simp only [e, R.bind] at q
    intro P1 H1 FE1 S1 t1
    cases d with
    | true => simp only [if_pos] at q ⊢; exact q P1 H1 FE1 S1 t1
    | false =>
      simp only [if_neg Bool.false_ne_true] at q ⊢
      refine ⟨P1, ρ1, FE1, S1, ?_⟩
      cases e2 : g ρ1 with
      | ok b ρ2 => simp only [e2] at q; exact fun P2 H2 FE2 S2 t2 => q P2 H2 FE2 S2 (t1.trans t2)
      | exc x ρ2 => simp only [e2] at q; exact fun cls dx P2 H2 FE2 S2 t2 r => q cls dx P2 H2 FE2 S2 (t1.trans t2) r
      | stk => simp only [e2] at q
  | exc x ρ1 => simp only [e, R.bind] at q; exact q
  | stk => simp only [e, R.bind] at q
theorem dt_not {f : Ev → R Bool} (h : DT X RX W a f) : DT X RX W (.UnaryOp .Not a pos) (fNot f) := by
  refine pt_imp (pt_not h) fun σ H Q q => ?_
  obtain ⟨P, ρ, FE, S, q⟩ := q
  refine ⟨P, ρ, FE, S, ?_⟩
  unfold fNot at q
  cases e : f ρ with
  | ok d ρ1 => simp only [e, R.bind] at q; exact q
  | exc x ρ1 => simp only [e, R.bind] at q; exact q
  | stk => simp only [e, R.bind] at q
theorem de_one {op} {f : Ev → R D} (h : DE X RX W a f) : DE X RX W (.BoolOp op [a] pos) f := pe_one h
theorem de_and {rest : List Expr} {f g : Ev → R D} (h : DE X RX W a f) (k : DE X RX W (.BoolOp .And (b :: rest) pos) g) : DE X RX W (.BoolOp .And (a :: b :: rest) pos) (fAndD f g) := by
  refine pe_imp (pe_and h k) fun σ H Q q => ?_
  obtain ⟨P, ρ, FE, S, q⟩ := q
  refine ⟨P, ρ, FE, S, ?_⟩
  unfold fAndD at q
  cases e : f ρ with
  | ok d ρ1 =>
    simp only [e, R.bind] at q
    intro v P1 H1 FE1 F1 S1 T1 t1
    cases d with
    | bl c =>
      refine ⟨c, rl_bl T1.rl, ?_⟩
      cases c with
      | false => simp only [if_neg Bool.false_ne_true] at q ⊢; exact q _ P1 H1 FE1 E_ S1 ⟨.bl, fun b z => z.elim⟩ (t1.less'.less fun b z => z.elim id False.elim)
      | true =>
        simp only [if_pos] at q ⊢
        refine ⟨P1, ρ1, FE1, S1, ?_⟩
        cases e2 : g ρ1 with
        | ok b ρ2 => simp only [e2] at q; exact fun w P2 H2 FE2 F2 S2 T2 t2 => q w P2 H2 FE2 F2 S2 T2 (t1.less'.trans t2)
        | exc x ρ2 => simp only [e2] at q; exact fun cls dx P2 H2 FE2 S2 t2 r => q cls dx P2 H2 FE2 S2 (t1.less'.trans t2) r
        | stk => simp only [e2] at q
    | _ => simp only at q
  | exc x ρ1 => simp only [e, R.bind] at q; exact q
  | stk => simp only [e, R.bind] at q
theorem de_not {f : Ev → R D} (h : DE X RX W a f) : DE X RX W (.UnaryOp .Not a pos) (fNotD f) := by
  refine pe_imp (pe_not h) fun σ H Q q => ?_
  obtain ⟨P, ρ, FE, S, q⟩ := q
  refine ⟨P, ρ, FE, S, ?_⟩
  unfold fNotD at q
  cases e : f ρ with
  | ok d ρ1 =>
    simp only [e, R.bind] at q
    intro v P1 H1 FE1 F1 S1 T1 t1
    cases d with
    | bl c => exact ⟨c, rl_bl T1.rl, q _ P1 H1 FE1 E_ S1 ⟨.bl, fun b z => z.elim⟩ (t1.less'.less fun b z => z.elim id False.elim)⟩
    | _ => simp only at q
  | exc x ρ1 => simp only [e, R.bind] at q; exact q
  | stk => simp only [e, R.bind] at q
end
end Hap
namespace Hap
open PySem PySem.Spec PyProof.Rows L2
variable [TabC]
def gI2 (f : Int → Int → Int) (d e : D) : Option D := match d, e with
  | .int i, .int j => some (.int (f i j))
  | _, _ => none
def gC2 (C : Int → Int → Prop) [∀ i j, Decidable (C i j)] (f : Int → Int → Int) (d e : D) : Option D := match d, e with
  | .int i, .int j => if C i j then some (.int (f i j)) else none
  | _, _ => none
def CDivX (_ j : Int) : Prop := j ≠ 0 ∧ j.natAbs < 18446744073709551616
instance (i j : Int) : Decidable (CDivX i j) := by unfold CDivX; infer_instance
omit [TabC] in
theorem op_fdivX {X : Cx} : OpR X (binaryOp .FloorDiv) (rI CDivX fun i j => .int (i.fdiv j)) := opI fun _ j _ _ _ _ _ hc q => by
  have h : j.natAbs.log2 < 9000 := Nat.lt_of_lt_of_le (PySem.Flt.log2_lt_of (k := 64) (by decide) hc.2) (by decide)
  exact floordiv_int hc.1 q (.inl (PyProof.noPylong_of_log2 h))
instance (i j : Int) : Decidable (CPow i j) := by unfold CPow; infer_instance
instance (i j : Int) : Decidable (CMul i j) := by unfold CMul; infer_instance
section
variable {K : PySem.W.Frag}
theorem vI2 {f : Int → Int → Int} : VOp2 K (rI0 fun i j => .int (f i j)) (gI2 f) := by
  intro P H d e v w x Q pin r1 r2 g h
  cases r1 <;> cases r2 <;> cases g
  exact ⟨_, _, rfl, rfl, h _ P H E_ New.refl .int⟩
theorem vC2 {C : Int → Int → Prop} [∀ i j, Decidable (C i j)] {f : Int → Int → Int} : VOp2 K (rI C fun i j => .int (f i j)) (gC2 C f) := by
  intro P H d e v w x Q pin r1 r2 g h
  cases r1 <;> cases r2 <;> simp only [gC2] at g <;> try cases g
  rename_i i j
  by_cases c : C i j
  · rw [if_pos c] at g; cases g
    exact ⟨_, _, rfl, rfl, c, h _ P H E_ New.refl .int⟩
  · rw [if_neg c] at g; cases g
def gU1 (f : Int → Int) (d : D) : Option D := match d with
  | .int i => some (.int (f i))
  | _ => none
theorem vU1 {f : Int → Int} : VOp1 K (rU fun i => .int (f i)) (gU1 f) := by
  intro P H d v x Q pin r1 g h
  cases r1 <;> cases g
  exact ⟨_, rfl, h _ P H E_ New.refl .int⟩
omit [TabC] in
/-- the lists' items, none of one's own -/
theorem lst_read {z : Bool} {P : AS} {H : Hp} {o : Bool} {ds : List D} {v : V} {F : AS} (r : Rl z K P H (.lst o ds) v F) : ∃ p vs, v = .ref p ∧ H p = some (.lst vs) ∧ Rls false K P H ds vs E_ := by
  cases r with
  | lstO e f s rs => exact ⟨_, _, rfl, e, rls_view rs⟩
  | lstI e p i rs => exact ⟨_, _, rfl, e, rls_view rs⟩
theorem new_lst {P : AS} {H : Hp} {p : Addr} {ds : List D} {vs : List V} (hp : H p = none) (pin : ∀ b, P b → H b ≠ none) (i : isImms ds = true) (rs : Rls false K P H ds vs E_) :
    New P H P (upd H p (.lst vs)) (fun b => b = p) ∧ Rl true K P (upd H p (.lst vs)) (.lst true ds) (.ref p) (fun b => b = p) :=
  ⟨New.lst hp pin, .lstO (F' := E_) upd_same (fun _ => rfl) (fun b z => z.elim) (rls_mono (z := true) (F := E_) (rls_imm rs i) (fun _ q => q) (fun b o e _ _ => by rw [upd_ne (ne_of_none e hp)]; exact e) fun _ z => z)⟩
omit [TabC] in
theorem rls_app {z : Bool} {P : AS} {H : Hp} {es : List D} {ws : List V} : ∀ {ds : List D} {vs : List V}, Rls z K P H ds vs E_ → Rls z K P H es ws E_ → Rls z K P H (ds ++ es) (vs ++ ws) E_
  | _, _, .nil, r => r
  | _, _, .cons a b s1 s2 dj, r => .cons (F1 := E_) (F2 := E_) (rl_mono a (fun _ q => q) (fun _ _ e _ _ => e) s1) (rls_app (rls_mono b (fun _ q => q) (fun _ _ e _ _ => e) s2) r) (fun _ q => q) (fun _ q => q) fun _ q => q.elim
omit [TabC] in
theorem isImms_app : ∀ {ds es : List D}, isImms ds = true → isImms es = true → isImms (ds ++ es) = true
  | [], _, _, h => h
  | _ :: _, _, h, k => by
    simp only [isImms, Bool.and_eq_true, List.cons_append] at h ⊢
    exact ⟨h.1, isImms_app h.2 k⟩
def gAdd (d e : D) : Option D := match d, e with
  | .int i, .int j => some (.int (i + j))
  | .str x, .str y => if x.length + y.length ≤ sizeLine then some (.str (x ++ y)) else none
  | .lst _ xs, .lst _ ys => if (isImms xs = true ∧ isImms ys = true) ∧ xs.length + ys.length ≤ sizeLine then some (.lst true (xs ++ ys)) else none
  | _, _ => none
abbrev rAddU : R2 := fun x y H Q => (∃ i j, x = .int i ∧ y = .int j ∧ Q (.int (i + j)) H) ∨ (∃ i j, x = .str i ∧ y = .str j ∧ i.length + j.length ≤ sizeLine ∧ Q (.str (i ++ j)) H) ∨ rCat x y H Q
omit [TabC] in
theorem op_addU {X : Cx} : OpR X (binaryOp .Add) rAddU := op_add.or (op_add_str.or op_cat)
theorem vAdd : VOp2 K rAddU gAdd := by
  intro P H d e v w x Q pin r1 r2 g h
  cases d <;> cases e <;> simp only [gAdd] at g <;> try (cases g; done)
  · cases g
    rw [rl_int r1, rl_int r2]
    exact .inl ⟨_, _, rfl, rfl, h _ P H E_ New.refl .int⟩
  · rename_i i j
    by_cases c : i.length + j.length ≤ sizeLine
    · rw [if_pos c] at g; cases g
      rw [rl_str r1, rl_str r2]
      exact .inr (.inl ⟨_, _, rfl, rfl, c, h _ P H E_ New.refl .str⟩)
    · rw [if_neg c] at g; cases g
  · rename_i o xs o' ys
    by_cases c : (isImms xs = true ∧ isImms ys = true) ∧ xs.length + ys.length ≤ sizeLine
    · rw [if_pos c] at g; cases g
      obtain ⟨p, vs, rfl, e1, rs1⟩ := lst_read r1
      obtain ⟨q, ws, rfl, e2, rs2⟩ := lst_read r2
      refine .inr (.inr ⟨p, q, vs, ws, rfl, rfl, e1, e2, by rw [← rls_len rs1, ← rls_len rs2]; exact c.2, fun a ha => ?_⟩)
      obtain ⟨n, r⟩ := new_lst ha pin (isImms_app c.1.1 c.1.2) (rls_app rs1 rs2)
      exact h _ _ _ _ n r
    · rw [if_neg c] at g; cases g
def gSub := gI2 fun i j => i - j
def gMul := gC2 CMul fun i j => i * j
def gFdiv := gC2 CDivX Int.fdiv
def gMod := gC2 (fun _ j => j ≠ 0) Int.fmod
def gPow := gC2 CPow fun i j => i ^ j.toNat
def gShl := gC2 CPow fun i j => i * 2 ^ j.toNat
def gShr := gC2 (fun _ j => 0 ≤ j) fun i j => i / 2 ^ j.toNat
def gBand := gI2 Builtin.bitAnd
def gBor := gI2 Builtin.bitOr
theorem vSub : VOp2 K (rI0 fun i j => .int (i - j)) gSub := vI2
theorem vMul : VOp2 K (rI CMul fun i j => .int (i * j)) gMul := vC2
theorem vFdiv : VOp2 K (rI CDivX fun i j => .int (i.fdiv j)) gFdiv := vC2
theorem vMod : VOp2 K (rI (fun _ j => j ≠ 0) fun i j => .int (i.fmod j)) gMod := vC2
theorem vPow : VOp2 K (rI CPow fun i j => .int (i ^ j.toNat)) gPow := vC2
theorem vShl : VOp2 K (rI CPow fun i j => .int (i * 2 ^ j.toNat)) gShl := vC2
theorem vShr : VOp2 K (rI (fun _ j => 0 ≤ j) fun i j => .int (i / 2 ^ j.toNat)) gShr := vC2
theorem vBand : VOp2 K (rI0 fun i j => .int (Builtin.bitAnd i j)) gBand := vI2
theorem vBor : VOp2 K (rI0 fun i j => .int (Builtin.bitOr i j)) gBor := vI2
def gNeg := gU1 fun i => -i
theorem vNeg : VOp1 K (rU fun i => .int (-i)) gNeg := vU1
def gCmp (p : Int → Int → Bool) (q : List Nat → List Nat → Bool) (d e : D) : Option D := match d, e with
  | .int i, .int j => some (.bl (p i j))
  | .str x, .str y => some (.bl (q x.cps.toList y.cps.toList))
  | _, _ => none
abbrev rCmp (p : Int → Int → Bool) (q : List Nat → List Nat → Bool) : R2 := fun x y H Q => (∃ i j, x = .int i ∧ y = .int j ∧ Q (.bl (p i j)) H) ∨ (∃ i j, x = .str i ∧ y = .str j ∧ Q (.bl (q i.cps.toList j.cps.toList)) H)
theorem vCmp {p : Int → Int → Bool} {q : List Nat → List Nat → Bool} : VOp2 K (rCmp p q) (gCmp p q) := by
  intro P H d e v w x Q pin r1 r2 g h
  cases d <;> cases e <;> simp only [gCmp] at g <;> try (cases g; done)
  · cases g
    rw [rl_int r1, rl_int r2]
    exact .inl ⟨_, _, rfl, rfl, h _ P H E_ New.refl .bl⟩
  · cases g
    rw [rl_str r1, rl_str r2]
    exact .inr ⟨_, _, rfl, rfl, h _ P H E_ New.refl .bl⟩
def gLt := gCmp (fun i j => decide (i < j)) fun x y => decide (x < y)
def gLe := gCmp (fun i j => decide (i ≤ j)) fun x y => !decide (y < x)
def gGt := gCmp (fun i j => decide (j < i)) fun x y => decide (y < x)
def gGe := gCmp (fun i j => decide (j ≤ i)) fun x y => !decide (x < y)
omit [TabC] in
theorem op_ltU {X : Cx} : OpR X (compareOp .Lt) (rCmp (fun i j => decide (i < j)) fun x y => decide (x < y)) := op_lt.or op_lt_str
omit [TabC] in
theorem op_leU {X : Cx} : OpR X (compareOp .LtE) (rCmp (fun i j => decide (i ≤ j)) fun x y => !decide (y < x)) := op_le.or op_le_str
omit [TabC] in
theorem op_gtU {X : Cx} : OpR X (compareOp .Gt) (rCmp (fun i j => decide (j < i)) fun x y => decide (y < x)) := op_gt.or op_gt_str
omit [TabC] in
theorem op_geU {X : Cx} : OpR X (compareOp .GtE) (rCmp (fun i j => decide (j ≤ i)) fun x y => !decide (x < y)) := op_ge.or op_ge_str
theorem vLt : VOp2 K (rCmp (fun i j => decide (i < j)) fun x y => decide (x < y)) gLt := vCmp
theorem vLe : VOp2 K (rCmp (fun i j => decide (i ≤ j)) fun x y => !decide (y < x)) gLe := vCmp
theorem vGt : VOp2 K (rCmp (fun i j => decide (j < i)) fun x y => decide (y < x)) gGt := vCmp
theorem vGe : VOp2 K (rCmp (fun i j => decide (j ≤ i)) fun x y => !decide (x < y)) gGe := vCmp
mutual
def toPy : D → PyData
  | .non => .none
  | .bl b => .bool b
  | .int i => .int i
  | .str x => .str x
  | .lst _ xs => .list (toPys xs)
  | .rol xs => .list (toPys xs)
  | .tup xs => .tuple (toPys xs)
  | .dct _ _ _ => .dict []
  | .dcT _ _ _ => .dict []
  | .gv _ => .dict []
  | .obj _ _ _ _ => .dict []
def toPys : List D → List PyData
  | [] => []
  | d :: ds => toPy d :: toPys ds
end
omit [TabC] in
mutual
theorem dp_of {P : AS} {H : Hp} {z : Bool} {d : D} {v : V} {F : AS} (h : Rl z K P H d v F) (s : (toPy d).canLay0 = true) : Dp K H v (toPy d) := by
  cases h with
  | non => exact .non
  | bl => exact .bl _
  | int => exact .int _
  | str => exact .str _
  | lstO e f s' r => exact .lst (.inl (.inl e)) (dps_of r (by simpa only [toPy, PyData.canLay0] using s))
  | lstI e p i r => exact .lst (.inl (.inl e)) (dps_of r (by simpa only [toPy, PyData.canLay0] using s))
  | tup e p r => exact .tup (.inl (.inl e)) (dps_of r (by simpa only [toPy, PyData.canLay0] using s))
  | rol e i r => exact .lst (rol_sql e) (dps_of r (by simpa only [toPy, PyData.canLay0] using s))
  | dctO => simp [toPy, PyData.canLay0] at s
  | dctI => simp [toPy, PyData.canLay0] at s
  | dcTO => simp [toPy, PyData.canLay0] at s
  | dcTI => simp [toPy, PyData.canLay0] at s
  | gv => simp [toPy, PyData.canLay0] at s
  | objO => simp [toPy, PyData.canLay0] at s
  | objI => simp [toPy, PyData.canLay0] at s
theorem dps_of {P : AS} {H : Hp} {z : Bool} {ds : List D} {vs : List V} {F : AS} (h : Rls z K P H ds vs F) (s : PyData.canLayAll0 (toPys ds) = true) : DpAll K H vs (toPys ds) := by
  cases h with
  | nil => exact .nil
  | cons r rs _ _ _ =>
    simp only [toPys, PyData.canLayAll0, Bool.and_eq_true] at s
    exact .cons (dp_of r s.1) (dps_of rs s.2)
end
def gEq (d e : D) : Option D := match d, e with
  | .int i, .int j => some (.bl (decide (i = j)))
  | .bl i, .bl j => some (.bl (decide (i = j)))
  | .str i, .str j => some (.bl (decide (i = j)))
  | _, _ => if SeqAt.shaped (toPy d) = true ∧ SeqAt.shaped (toPy e) = true then some (.bl (PyData.eqv (toPy d) (toPy e))) else none
def gNe (d e : D) : Option D := match gEq d e with
  | some (.bl b) => some (.bl (!b))
  | _ => none
abbrev rEqU (K : PySem.W.Frag) : R2 := fun x y H Q => rEq x y H Q ∨ rEqD K x y H Q
abbrev rNeU (K : PySem.W.Frag) : R2 := fun x y H Q => rNe x y H Q ∨ rNeD K x y H Q
omit [TabC] in
theorem op_eqU {X : Cx} (hu : X.A.units + 64 < cLine) : OpR X (compareOp .Eq) (rEqU X.K) := op_eq.or (op_eqD hu)
omit [TabC] in
theorem op_neU {X : Cx} (hu : X.A.units + 64 < cLine) : OpR X (compareOp .NotEq) (rNeU X.K) := op_ne.or (op_neD hu)
omit [TabC] in
theorem shaped_lay {d : PyData} (h : SeqAt.shaped d = true) : d.canLay0 = true := SeqAt.canLay_of_shaped h
omit [TabC] in
/-- == by cases: two scalars of one kind, or data -/
theorem gEq_cases {d e x : D} (g : gEq d e = some x) : (∃ i j, d = .int i ∧ e = .int j ∧ x = .bl (decide (i = j))) ∨ (∃ i j, d = .bl i ∧ e = .bl j ∧ x = .bl (decide (i = j))) ∨ (∃ i j, d = .str i ∧ e = .str j ∧ x = .bl (decide (i = j))) ∨
    (SeqAt.shaped (toPy d) = true ∧ SeqAt.shaped (toPy e) = true ∧ x = .bl (PyData.eqv (toPy d) (toPy e))) := by
  unfold gEq at g
  split at g
  · cases g; exact .inl ⟨_, _, rfl, rfl, rfl⟩
  · cases g; exact .inr (.inl ⟨_, _, rfl, rfl, rfl⟩)
  · cases g; exact .inr (.inr (.inl ⟨_, _, rfl, rfl, rfl⟩))
  · by_cases c : SeqAt.shaped (toPy d) = true ∧ SeqAt.shaped (toPy e) = true
    · rw [if_pos c] at g; cases g
      exact .inr (.inr (.inr ⟨c.1, c.2, rfl⟩))
    · rw [if_neg c] at g; cases g
theorem vEq : VOp2 K (rEqU K) gEq := by
  intro P H d e v w x Q pin r1 r2 g h
  rcases gEq_cases g with ⟨i, j, rfl, rfl, rfl⟩ | ⟨i, j, rfl, rfl, rfl⟩ | ⟨i, j, rfl, rfl, rfl⟩ | ⟨s1, s2, rfl⟩
  · rw [rl_int r1, rl_int r2]
    refine .inl ⟨rfl, ?_⟩
    rw [show decide (V.int i = V.int j) = decide (i = j) from by simp]
    exact h _ P H E_ New.refl .bl
  · rw [rl_bl r1, rl_bl r2]
    refine .inl ⟨rfl, ?_⟩
    rw [show decide (V.bl i = V.bl j) = decide (i = j) from by simp]
    exact h _ P H E_ New.refl .bl
  · rw [rl_str r1, rl_str r2]
    refine .inl ⟨rfl, ?_⟩
    rw [show decide (V.str i = V.str j) = decide (i = j) from by simp]
    exact h _ P H E_ New.refl .bl
  · exact .inr ⟨_, _, dp_of r1 (shaped_lay s1), dp_of r2 (shaped_lay s2), s1, s2, h _ P H E_ New.refl .bl⟩
theorem vNe : VOp2 K (rNeU K) gNe := by
  intro P H d e v w x Q pin r1 r2 g h
  unfold gNe at g
  split at g
  · rename_i b gb
    cases g
    rcases gEq_cases gb with ⟨i, j, rfl, rfl, q⟩ | ⟨i, j, rfl, rfl, q⟩ | ⟨i, j, rfl, rfl, q⟩ | ⟨s1, s2, q⟩
    · cases q
      rw [rl_int r1, rl_int r2]
      refine .inl ⟨rfl, ?_⟩
      rw [show decide (V.int i = V.int j) = decide (i = j) from by simp]
      exact h _ P H E_ New.refl .bl
    · cases q
      rw [rl_bl r1, rl_bl r2]
      refine .inl ⟨rfl, ?_⟩
      rw [show decide (V.bl i = V.bl j) = decide (i = j) from by simp]
      exact h _ P H E_ New.refl .bl
    · cases q
      rw [rl_str r1, rl_str r2]
      refine .inl ⟨rfl, ?_⟩
      rw [show decide (V.str i = V.str j) = decide (i = j) from by simp]
      exact h _ P H E_ New.refl .bl
    · cases q
      exact .inr ⟨_, _, dp_of r1 (shaped_lay s1), dp_of r2 (shaped_lay s2), s1, s2, h _ P H E_ New.refl .bl⟩
  · cases g
end
end Hap
namespace Hap
open PySem PySem.Spec PyProof.Rows L2
variable [TabC]
section
variable {κ : Type} [DecidableEq κ]
def memK (k : κ) (ks : List κ) : Bool := decide (k ∈ ks)
def getK : List κ → List D → κ → Option D
  | k' :: ks, d :: ds, k => if k' = k then some d else getK ks ds k
  | _, _, _ => none
def replK : List κ → List D → κ → D → List D
  | k' :: ks, x :: xs, k, d => (if k' = k then d else x) :: replK ks xs k d
  | _, _, _, _ => []
/-- in its place, or at the end -/
def putKs (ks : List κ) (xs : List D) (k : κ) (d : D) : List κ × List D := if k ∈ ks then (ks, replK ks xs k d) else (ks ++ [k], xs ++ [d])
variable {K : PySem.W.Frag} {P : AS} {H : Hp} {z : Bool}
omit [TabC] in
theorem getK_some : ∀ {ks : List κ} {ds : List D} {vs : List V} {F : AS} {k : κ} {d : D}, Rls z K P H ds vs F → ks.length = vs.length → getK ks ds k = some d → ∃ v, valV (ks.zip vs) k = some v ∧ Rl z K P H d v F
  | [], _, _, _, _, _, _, _, e => by simp [getK] at e
  | _ :: _, _, _, _, _, _, .nil, l, _ => by simp at l
  | k' :: ks, _, _, F, k, d, .cons (v := v) r rs s1 s2 _, l, e => by
    simp only [getK] at e
    by_cases h : k' = k
    · rw [if_pos h] at e; cases e
      exact ⟨v, valV_pos (p := (k', v)) h, rl_mono r (fun _ q => q) (fun _ _ e _ _ => e) s1⟩
    · rw [if_neg h] at e
      obtain ⟨w, h1, h2⟩ := getK_some rs (by simpa using l) e
      exact ⟨w, (valV_neg (p := (k', v)) h).trans h1, rl_mono h2 (fun _ q => q) (fun _ _ e _ _ => e) s2⟩
omit [TabC] in
theorem getK_none : ∀ {ks : List κ} {ds : List D} {vs : List V} {F : AS} {k : κ}, Rls z K P H ds vs F → ks.length = vs.length → getK ks ds k = none → valV (ks.zip vs) k = none
  | [], _, _, _, _, _, _, _ => rfl
  | _ :: _, _, _, _, _, .nil, l, _ => by simp at l
  | k' :: ks, _, _, F, k, .cons (v := v) r rs s1 s2 _, l, e => by
    simp only [getK] at e
    by_cases h : k' = k
    · rw [if_pos h] at e; cases e
    · rw [if_neg h] at e
      exact (valV_neg (p := (k', v)) h).trans (getK_none rs (by simpa using l) e)
omit [TabC] in
theorem getK_mem : ∀ {ks : List κ} {ds : List D} {k : κ}, ks.length = ds.length → (getK ks ds k).isSome = decide (k ∈ ks)
  | [], _, _, _ => by simp [getK]
  | _ :: _, [], _, l => by simp at l
  | k' :: ks, d :: ds, k, l => by
    simp only [getK]
    by_cases h : k' = k
    · rw [if_pos h]; simp [h]
    · rw [if_neg h, getK_mem (ks := ks) (ds := ds) (k := k) (by simpa using l)]
      have h' : ¬ k = k' := fun e => h e.symm
      simp [h']
theorem valV_isSome {ks : List κ} {ds : List D} {vs : List V} {F : AS} {k : κ} (r : Rls z K P H ds vs F) (l : ks.length = vs.length) : (valV (ks.zip vs) k).isSome = decide (k ∈ ks) := by
  rw [← getK_mem (ds := ds) (by rw [l, rls_len r])]
  cases e : getK ks ds k with
  | none => rw [getK_none r l e]; rfl
  | some d => obtain ⟨v, h, _⟩ := getK_some r l e; rw [h]; rfl
end
def keyOf (d : D) : Option Key := match d with
  | .int i => some (.inl i)
  | .str x => some (.inr x)
  | _ => none
def keysOf : List D → Option (List Key)
  | [] => some []
  | d :: ds => match keyOf d, keysOf ds with
    | some k, some ks => some (k :: ks)
    | _, _ => none
omit [TabC] in
theorem keyOf_rl {K : PySem.W.Frag} {P : AS} {H : Hp} {z : Bool} {d : D} {v : V} {F : AS} {k : Key} (r : Rl z K P H d v F) (h : keyOf d = some k) : v = kV k := by
  cases r <;> cases h <;> rfl
theorem keysOf_rls {K : PySem.W.Frag} {P : AS} {H : Hp} {z : Bool} : ∀ {ds : List D} {vs : List V} {F : AS} {ks : List Key}, Rls z K P H ds vs F → keysOf ds = some ks → vs = ks.map kV
  | _, _, _, _, .nil, h => by cases h; rfl
  | _, _, _, _, .cons (d := d) (ds := ds) r rs _ _ _, h => by
    simp only [keysOf] at h
    cases e1 : keyOf d with
    | none => simp [e1] at h
    | some k =>
      cases e2 : keysOf ds with
      | none => simp [e1, e2] at h
      | some ks =>
        simp only [e1, e2] at h; cases h
        rw [keyOf_rl r e1, keysOf_rls rs e2]; rfl
def flatD (d : D) : Bool := match d with
  | .non => true
  | .bl _ => true
  | .int _ => true
  | .str _ => true
  | _ => false
def toV (d : D) : V := match d with
  | .bl b => .bl b
  | .int i => .int i
  | .str x => .str x
  | _ => .non
omit [TabC] in
theorem flat_rl {K : PySem.W.Frag} {P : AS} {H : Hp} {z : Bool} {d : D} {v : V} {F : AS} (r : Rl z K P H d v F) (h : flatD d = true) : v = toV d ∧ flatV v = true := by
  cases r <;> first | exact ⟨rfl, rfl⟩ | cases h
theorem flats_rls {K : PySem.W.Frag} {P : AS} {H : Hp} {z : Bool} : ∀ {ds : List D} {vs : List V} {F : AS}, Rls z K P H ds vs F → ds.all flatD = true → vs = ds.map toV ∧ vs.all flatV = true
  | _, _, _, .nil, _ => ⟨rfl, rfl⟩
  | _, _, _, .cons r rs _ _ _, h => by
    simp only [List.all_cons, Bool.and_eq_true] at h
    obtain ⟨h1, h2⟩ := flat_rl r h.1
    obtain ⟨h3, h4⟩ := flats_rls rs h.2
    refine ⟨by rw [h1, h3]; rfl, by rw [List.all_cons, h2, h4]; rfl⟩
def gInB (d e : D) : Option Bool := match e with
  | .str z => (match d with
    | .str x => (match x.cps.toList with
      | [c] => some (decide (c ∈ z.cps.toList))
      | _ => none)
    | _ => none)
  | .lst _ xs => if SeqAt.shaped (toPy d) = true ∧ SeqAt.shaped (.list (toPys xs)) = true then some ((toPys xs).any fun z => PyData.eqv z (toPy d)) else none
  | .rol xs => if SeqAt.shaped (toPy d) = true ∧ SeqAt.shaped (.list (toPys xs)) = true then some ((toPys xs).any fun z => PyData.eqv z (toPy d)) else none
  | .tup xs => if flatD d = true ∧ xs.all flatD = true then some (inV (toV d) (xs.map toV)) else none
  | .dct _ ks _ => (keyOf d).map fun k => memK k ks
  | .dcT _ ks _ => (match d with
    | .tup ds => (keysOf ds).map fun k => memK k ks
    | _ => none)
  | _ => none
def gIn (d e : D) : Option D := (gInB d e).map .bl
def gNin (d e : D) : Option D := (gInB d e).map fun b => .bl (!b)
abbrev rDIn (neg : Bool) : R2 := fun y x H Q => ∃ a o, x = .ref a ∧ DGet H a y o ∧ Q (.bl (if neg = true then !o.isSome else o.isSome)) H
abbrev rInU (K : PySem.W.Frag) : R2 := fun x y H Q => (∃ (c : Nat) (z : Str), x = .str ⟨#[c]⟩ ∧ y = .str z ∧ Q (.bl (decide (c ∈ z.cps.toList))) H) ∨ rInD K x y H Q ∨ rIn K false x y H Q ∨ rDIn false x y H Q
abbrev rNinU (K : PySem.W.Frag) : R2 := fun x y H Q => (∃ (c : Nat) (z : Str), x = .str ⟨#[c]⟩ ∧ y = .str z ∧ Q (.bl (!decide (c ∈ z.cps.toList))) H) ∨ rNotInD K x y H Q ∨ rIn K true x y H Q ∨ rDIn true x y H Q
omit [TabC] in
theorem op_dIn {X : Cx} (hu : X.A.units + 1 < cLine) : OpR X (compareOp .In) (rDIn false) := by
  intro pins s σ H x y v u Q I rx ry h
  obtain ⟨a, o, rfl, g, q⟩ := h
  cases ry
  exact d_in hu I g rx fun s3 I3 => ⟨.bl o.isSome, H, I3, rfl, by simpa using q⟩
omit [TabC] in
theorem op_dNin {X : Cx} (hu : X.A.units + 1 < cLine) : OpR X (compareOp .NotIn) (rDIn true) := by
  intro pins s σ H x y v u Q I rx ry h
  obtain ⟨a, o, rfl, g, q⟩ := h
  cases ry
  exact d_notIn hu I g rx fun s3 I3 => ⟨.bl (!o.isSome), H, I3, rfl, by simpa using q⟩
theorem op_inU {X : Cx} (hu : X.A.units + 65 < cLine) : OpR X (compareOp .In) (rInU X.K) := op_in_sign.or ((op_inD hu).or (op_in_seq.or (op_dIn (by omega))))
theorem op_ninU {X : Cx} (hu : X.A.units + 65 < cLine) : OpR X (compareOp .NotIn) (rNinU X.K) := op_notIn_sign.or ((op_notInD hu).or (op_notIn_seq.or (op_dNin (by omega))))
section
variable {K : PySem.W.Frag}
omit [TabC] in
theorem str_one {x : Str} {c : Nat} (h : x.cps.toList = [c]) : x = ⟨#[c]⟩ := by
  obtain ⟨a⟩ := x
  have : a = #[c] := by
    apply Array.ext'
    simpa using h
  rw [this]
/-- what stands behind «in» -/
theorem inB_cases {P : AS} {H : Hp} {d e : D} {v w : V} {b : Bool} (r1 : Rl false K P H d v E_) (r2 : Rl false K P H e w E_) (g : gInB d e = some b) :
    (∃ (c : Nat) (z : Str), v = .str ⟨#[c]⟩ ∧ w = .str z ∧ b = decide (c ∈ z.cps.toList)) ∨
    (∃ d' ds, Dp K H v d' ∧ Dp K H w (.list ds) ∧ SeqAt.shaped d' = true ∧ SeqAt.shaped (.list ds) = true ∧ b = ds.any fun z => PyData.eqv z d') ∨
    (∃ p xs, w = .ref p ∧ (SqL K H p xs ∨ SqT K H p xs) ∧ flatV v = true ∧ xs.all flatV = true ∧ b = inV v xs) ∨ ∃ a o, w = .ref a ∧ DGet H a v o ∧ b = o.isSome := by
  cases r2 with
  | str =>
    simp only [gInB] at g
    cases r1 with
    | str =>
      simp only at g
      split at g
      · rename_i c e
        cases g
        rw [str_one e]
        exact .inl ⟨_, _, rfl, rfl, rfl⟩
      · cases g
    | _ => simp at g
  | lstO e f s r =>
    simp only [gInB] at g
    split at g
    · rename_i c
      cases g
      exact .inr (.inl ⟨_, _, dp_of r1 (shaped_lay c.1), .lst (.inl (.inl e)) (dps_of r (by simpa only [PyData.canLay0] using shaped_lay c.2)), c.1, c.2, rfl⟩)
    · cases g
  | lstI e p i r =>
    simp only [gInB] at g
    split at g
    · rename_i c
      cases g
      exact .inr (.inl ⟨_, _, dp_of r1 (shaped_lay c.1), .lst (.inl (.inl e)) (dps_of r (by simpa only [PyData.canLay0] using shaped_lay c.2)), c.1, c.2, rfl⟩)
    · cases g
  | rol e i r =>
    simp only [gInB] at g
    split at g
    · rename_i c
      cases g
      exact .inr (.inl ⟨_, _, dp_of r1 (shaped_lay c.1), .lst (rol_sql e) (dps_of r (by simpa only [PyData.canLay0] using shaped_lay c.2)), c.1, c.2, rfl⟩)
    · cases g
  | tup e p r =>
    simp only [gInB] at g
    split at g
    · rename_i c
      cases g
      obtain ⟨h1, h2⟩ := flat_rl r1 c.1
      obtain ⟨h3, h4⟩ := flats_rls r c.2
      exact .inr (.inr (.inl ⟨_, _, rfl, .inr (.inl (.inl e)), h2, h4, by rw [h1, h3]⟩))
    · cases g
  | dctO e k l f s r =>
    simp only [gInB] at g
    cases e2 : keyOf d with
    | none => rw [e2] at g; cases g
    | some kk =>
      rw [e2] at g; cases g
      subst k
      rw [keyOf_rl r1 e2]
      exact .inr (.inr (.inr ⟨_, _, rfl, DGet.k e, (valV_isSome r l).symm⟩))
  | dctI e k l p i r =>
    simp only [gInB] at g
    cases e2 : keyOf d with
    | none => rw [e2] at g; cases g
    | some kk =>
      rw [e2] at g; cases g
      subst k
      rw [keyOf_rl r1 e2]
      exact .inr (.inr (.inr ⟨_, _, rfl, DGet.kR e, (valV_isSome r l).symm⟩))
  | dcTO e k l f s r =>
    simp only [gInB] at g
    cases r1 with
    | @tup _ _ ds1 _ e1 p1 rs1 =>
      simp only at g
      cases e2 : keysOf ds1 with
      | none => rw [e2] at g; cases g
      | some kk =>
        rw [e2] at g; cases g
        subst k
        rw [keysOf_rls rs1 e2] at e1
        exact .inr (.inr (.inr ⟨_, _, rfl, DGet.t e e1, (valV_isSome r l).symm⟩))
    | _ => simp at g
  | dcTI e k l p i r =>
    simp only [gInB] at g
    cases r1 with
    | @tup _ _ ds1 _ e1 p1 rs1 =>
      simp only at g
      cases e2 : keysOf ds1 with
      | none => rw [e2] at g; cases g
      | some kk =>
        rw [e2] at g; cases g
        subst k
        rw [keysOf_rls rs1 e2] at e1
        exact .inr (.inr (.inr ⟨_, _, rfl, DGet.tR e e1, (valV_isSome r l).symm⟩))
    | _ => simp at g
  | _ => simp [gInB] at g
theorem vIn : VOp2 K (rInU K) gIn := by
  intro P H d e v w x Q pin r1 r2 g h
  unfold gIn at g
  cases gb : gInB d e with
  | none => rw [gb] at g; cases g
  | some b =>
    rw [gb] at g; cases g
    have h := h _ P H E_ New.refl .bl
    rcases inB_cases r1 r2 gb with ⟨c, z, rfl, rfl, rfl⟩ | ⟨d', ds, h1, h2, h3, h4, rfl⟩ | ⟨p, xs, rfl, h1, h2, h3, rfl⟩ | ⟨a, o, rfl, h1, rfl⟩
    · exact .inl ⟨c, z, rfl, rfl, h⟩
    · exact .inr (.inl ⟨d', ds, h1, h2, h3, h4, h⟩)
    · exact .inr (.inr (.inl ⟨p, xs, rfl, h1, h2, h3, h⟩))
    · exact .inr (.inr (.inr ⟨a, o, rfl, h1, by simpa using h⟩))
theorem vNin : VOp2 K (rNinU K) gNin := by
  intro P H d e v w x Q pin r1 r2 g h
  unfold gNin at g
  cases gb : gInB d e with
  | none => rw [gb] at g; cases g
  | some b =>
    rw [gb] at g; cases g
    have h := h _ P H E_ New.refl .bl
    rcases inB_cases r1 r2 gb with ⟨c, z, rfl, rfl, rfl⟩ | ⟨d', ds, h1, h2, h3, h4, rfl⟩ | ⟨p, xs, rfl, h1, h2, h3, rfl⟩ | ⟨a, o, rfl, h1, rfl⟩
    · exact .inl ⟨c, z, rfl, rfl, h⟩
    · exact .inr (.inl ⟨d', ds, h1, h2, h3, h4, h⟩)
    · exact .inr (.inr (.inl ⟨p, xs, rfl, h1, h2, h3, h⟩))
    · exact .inr (.inr (.inr ⟨a, o, rfl, h1, by simpa using h⟩))
end
end Hap
namespace Hap
open PySem PySem.Spec PyProof.Rows L2
variable [TabC]
def gIs (d e : D) : Option D := match d, e with
  | .bl a, .bl b => some (.bl (decide (a = b)))
  | .non, .non => some (.bl true)
  | _, .non => some (.bl false)
  | _, _ => none
abbrev rIsU : R2 := fun x y H Q => (∃ a b, x = .bl a ∧ y = .bl b ∧ Q (.bl (decide (a = b))) H) ∨ (y = .non ∧ Q (.bl (decide (x = .non))) H)
omit [TabC] in
theorem op_isU {X : Cx} : OpR X (compareOp .Is) rIsU := op_is_bl.or op_isN
def isGv (d : D) : Bool := match d with
  | .gv _ => true
  | _ => false
section
variable {K : PySem.W.Frag}
omit [TabC] in
theorem non_iff {P : AS} {H : Hp} {d : D} {v : V} (r : Rl false K P H d v E_) (n : isGv d = false) (hd : d ≠ .non) : decide (v = V.non) = false := by
  cases r <;> first | rfl | exact absurd rfl hd | cases n
theorem vIsB {P : AS} {H : Hp} {d e : D} {v w : V} {b : Bool} (r1 : Rl false K P H d v E_) (r2 : Rl false K P H e w E_) (n : isGv d = false) (g : gIs d e = some (.bl b)) :
    (∃ a c, v = .bl a ∧ w = .bl c ∧ b = decide (a = c)) ∨ (w = .non ∧ b = decide (v = .non)) := by
  unfold gIs at g
  split at g
  · cases g
    exact .inl ⟨_, _, rl_bl r1, rl_bl r2, rfl⟩
  · cases g
    rw [rl_non r1, rl_non r2]
    exact .inr ⟨rfl, rfl⟩
  · rename_i h1 h2
    cases g
    refine .inr ⟨rl_non r2, (non_iff r1 n ?_).symm⟩
    intro z
    exact h2 z
  · cases g
def gIs' (d e : D) : Option D := if isGv d = true then none else gIs d e
theorem vIs : VOp2 K rIsU gIs' := by
  intro P H d e v w x Q pin r1 r2 g h
  unfold gIs' at g
  by_cases n : isGv d = true
  · rw [if_pos n] at g; cases g
  · rw [if_neg n] at g
    have n' : isGv d = false := by simpa using n
    have : ∃ b, x = .bl b := by
      unfold gIs at g
      split at g <;> cases g <;> exact ⟨_, rfl⟩
    obtain ⟨b, rfl⟩ := this
    have hq := h (.bl b) P H E_ New.refl .bl
    rcases vIsB r1 r2 n' g with ⟨a, c, rfl, rfl, rfl⟩ | ⟨rfl, rfl⟩
    · exact .inl ⟨a, c, rfl, rfl, hq⟩
    · exact .inr ⟨rfl, hq⟩
def gLen (ds : List D) : Option D := match ds with
  | [.str x] => if x.length ≤ sizeLine then some (.int x.length) else none
  | [.lst _ xs] => some (.int xs.length)
  | [.rol xs] => some (.int xs.length)
  | [.tup xs] => some (.int xs.length)
  | [.dct _ ks _] => some (.int ks.length)
  | _ => none
abbrev rLenU (K : PySem.W.Frag) : List V → Hp → VK → Prop := fun xs H Q => (∃ x n, xs = [x] ∧ LenV K x H n ∧ Q (.int n) H) ∨ (∃ a kvs, xs = [V.ref a] ∧ Rd H a (.dK kvs) ∧ Q (.int kvs.length) H)
omit [TabC] in
theorem call_lenDR {X : Cx} : CallR X (.builtin "len") (fun xs H Q => ∃ a kvs, xs = [V.ref a] ∧ Rd H a (.dK kvs) ∧ Q (.int kvs.length) H) := by
  intro pins s σ H xs us Q I r h
  obtain ⟨a, kvs, rfl, ha, q⟩ := h
  obtain ⟨u, rfl, ru⟩ := vals1 r
  cases ru
  exact d_len I ha fun t s' I' => ⟨.int kvs.length, H, I', ⟨t, rfl⟩, q⟩
omit [TabC] in
theorem call_lenU {X : Cx} : CallR X (.builtin "len") (rLenU X.K) := call_len.or call_lenDR
omit [TabC] in
theorem rol_read {P : AS} {H : Hp} {ds : List D} {v : V} {z : Bool} {F : AS} (r : Rl z K P H (.rol ds) v F) : ∃ p vs, v = .ref p ∧ SqL K H p vs ∧ Rls false K P H ds vs E_ := by
  cases r with
  | rol e i rs => exact ⟨_, _, rfl, rol_sql e, rls_view rs⟩
omit [TabC] in
theorem tup_read {P : AS} {H : Hp} {ds : List D} {v : V} {z : Bool} {F : AS} (r : Rl z K P H (.tup ds) v F) : ∃ p vs, v = .ref p ∧ H p = some (.tup vs) ∧ P p ∧ Rls false K P H ds vs E_ := by
  cases r with
  | tup e p rs => exact ⟨_, _, rfl, e, p, rls_view rs⟩
omit [TabC] in
theorem dct_read {P : AS} {H : Hp} {o : Bool} {ks : List Key} {ds : List D} {v : V} {z : Bool} {F : AS} (r : Rl z K P H (.dct o ks ds) v F) : ∃ p vs, v = .ref p ∧ Rd H p (.dK (ks.zip vs)) ∧ ks.length = vs.length ∧ Rls false K P H ds vs E_ := by
  cases r with
  | dctO e k l f s rs => subst k; exact ⟨_, _, rfl, .inl e, l, rls_view rs⟩
  | dctI e k l p i rs => subst k; exact ⟨_, _, rfl, e, l, rls_view rs⟩
omit [TabC] in
theorem dcT_read {P : AS} {H : Hp} {o : Bool} {ks : List (List Key)} {ds : List D} {v : V} {z : Bool} {F : AS} (r : Rl z K P H (.dcT o ks ds) v F) : ∃ p vs, v = .ref p ∧ Rd H p (.dT (ks.zip vs)) ∧ ks.length = vs.length ∧ Rls false K P H ds vs E_ := by
  cases r with
  | dcTO e k l f s rs => subst k; exact ⟨_, _, rfl, .inl e, l, rls_view rs⟩
  | dcTI e k l p i rs => subst k; exact ⟨_, _, rfl, e, l, rls_view rs⟩
theorem vLen : VOpN K (rLenU K) gLen := by
  intro P H ds vs x Q pin rs g h
  unfold gLen at g
  split at g
  · obtain ⟨v, rfl, r⟩ := rls1 rs
    split at g
    · rename_i c
      cases g
      rw [rl_str r]
      exact .inl ⟨_, _, rfl, ⟨c, rfl⟩, h _ P H E_ New.refl .int⟩
    · cases g
  · obtain ⟨v, rfl, r⟩ := rls1 rs
    cases g
    obtain ⟨p, vs, rfl, e, r2⟩ := lst_read r
    refine .inl ⟨_, vs.length, rfl, .inl ⟨vs, .inl (.inl e), rfl⟩, ?_⟩
    rw [← rls_len r2]
    exact h _ P H E_ New.refl .int
  · obtain ⟨v, rfl, r⟩ := rls1 rs
    cases g
    obtain ⟨p, vs, rfl, e, r2⟩ := rol_read r
    refine .inl ⟨_, vs.length, rfl, .inl ⟨vs, e, rfl⟩, ?_⟩
    rw [← rls_len r2]
    exact h _ P H E_ New.refl .int
  · obtain ⟨v, rfl, r⟩ := rls1 rs
    cases g
    obtain ⟨p, vs, rfl, e, _, r2⟩ := tup_read r
    refine .inl ⟨_, vs.length, rfl, .inr ⟨vs, .inl (.inl e), rfl⟩, ?_⟩
    rw [← rls_len r2]
    exact h _ P H E_ New.refl .int
  · obtain ⟨v, rfl, r⟩ := rls1 rs
    cases g
    obtain ⟨p, vs, rfl, e, l, r2⟩ := dct_read r
    refine .inr ⟨p, _, rfl, e, ?_⟩
    rw [List.length_zip, ← l, Nat.min_self]
    exact h _ P H E_ New.refl .int
  · cases g
def gIx (d e : D) : Option D := match d with
  | .lst _ xs => (match e with
    | .int i => atI xs i
    | _ => none)
  | .rol xs => (match e with
    | .int i => atI xs i
    | _ => none)
  | .tup xs => (match e with
    | .int i => atI xs i
    | _ => none)
  | .str z => (match e with
    | .int i => if z.length ≤ sizeLine then (atI z.cps.toList i).map fun c => .str ⟨#[c]⟩ else none
    | _ => none)
  | .dct _ ks xs => (keyOf e).bind (getK ks xs)
  | .dcT _ ks xs => (match e with
    | .tup ds => (keysOf ds).bind (getK ks xs)
    | _ => none)
  | _ => none
def gIxI (d e : D) : Option D := match gIx d e with
  | some x => if isImm x = true then some x else none
  | none => none
abbrev rIxU (K : PySem.W.Frag) : R2 := fun x y H Q => rIx K x y H Q ∨ ∃ a v, x = .ref a ∧ DGet H a y (some v) ∧ Q v H
omit [TabC] in
theorem ix_U {X : Cx} (hu : X.A.units + 1 < cLine) : IxR X (rIxU X.K) := by
  intro value slice pins s σ H x y v u Q I rx ry h hs
  rcases h with h | ⟨a, w, rfl, g, q⟩
  · exact ix_seq value slice pins s σ H x y v u Q I rx ry h hs
  · cases rx
    exact tail_any (dict_typeIs I g) PySem.F.slot_dict_getitem.lookup (d_getItem hu I g ry fun w' s' I' rw' => ⟨w, H, I', rw', q⟩) hs
omit [TabC] in
theorem atI_rls {P : AS} {H : Hp} {ds : List D} {vs : List V} {i : Int} {d : D} {z : Bool} {F : AS} (r : Rls z K P H ds vs F) (h : atI ds i = some d) : ∃ v, atI vs i = some v ∧ Rl z K P H d v F := by
  unfold atI at h ⊢
  rw [← rls_len r]
  cases e : ixN ds.length i with
  | none => rw [e] at h; cases h
  | some j =>
    rw [e] at h
    exact rls_get r h
/-- by a look -/
theorem vIx0 {P : AS} {H : Hp} {d e x : D} {v w : V} {Q : VK} (r1 : Rl false K P H d v E_) (r2 : Rl false K P H e w E_) (g : gIx d e = some x) (h : ∀ u, Rl false K P H x u E_ → Q u H) : rIxU K v w H Q := by
  unfold gIx at g
  split at g
  · split at g
    · obtain ⟨p, vs, rfl, e, rs⟩ := lst_read r1
      obtain ⟨u, h1, h2⟩ := atI_rls rs g
      rw [rl_int r2]
      exact .inl (.inl ⟨p, vs, _, u, rfl, rfl, .inl (.inl e), h1, h u h2⟩)
    · cases g
  · split at g
    · obtain ⟨p, vs, rfl, e, rs⟩ := rol_read r1
      obtain ⟨u, h1, h2⟩ := atI_rls rs g
      rw [rl_int r2]
      exact .inl (.inl ⟨p, vs, _, u, rfl, rfl, e, h1, h u h2⟩)
    · cases g
  · split at g
    · obtain ⟨p, vs, rfl, e, _, rs⟩ := tup_read r1
      obtain ⟨u, h1, h2⟩ := atI_rls rs g
      rw [rl_int r2]
      exact .inl (.inr (.inl ⟨p, vs, _, u, rfl, rfl, .inl (.inl e), h1, h u h2⟩))
    · cases g
  · split at g
    · rename_i z _ i
      split at g
      · rename_i c
        cases e : atI z.cps.toList i with
        | none => rw [e] at g; cases g
        | some k =>
          rw [e] at g; cases g
          rw [rl_str r1, rl_int r2]
          exact .inl (.inr (.inr ⟨_, _, k, rfl, rfl, c, e, h _ .str⟩))
      · cases g
    · cases g
  · rename_i ks xs
    cases e1 : keyOf e with
    | none => rw [e1] at g; cases g
    | some k =>
      rw [e1] at g
      obtain ⟨p, vs, rfl, e2, l, rs⟩ := dct_read r1
      obtain ⟨u, h1, h2⟩ := getK_some rs l g
      rw [keyOf_rl r2 e1]
      exact .inr ⟨p, u, rfl, h1 ▸ DGet.kR e2, h u h2⟩
  · rename_i ks xs
    split at g
    · rename_i ds
      cases e1 : keysOf ds with
      | none => rw [e1] at g; cases g
      | some k =>
        rw [e1] at g
        obtain ⟨p, vs, rfl, e2, l, rs⟩ := dcT_read r1
        obtain ⟨u, h1, h2⟩ := getK_some rs l g
        obtain ⟨q, ws, rfl, e3, _, rs3⟩ := tup_read r2
        rw [keysOf_rls rs3 e1] at e3
        exact .inr ⟨p, u, rfl, h1 ▸ DGet.tR e2 e3, h u h2⟩
    · cases g
  · cases g
theorem vIxI : VOp2 K (rIxU K) gIxI := by
  intro P H d e v w x Q pin r1 r2 g h
  unfold gIxI at g
  cases e1 : gIx d e with
  | none => rw [e1] at g; cases g
  | some y =>
    rw [e1] at g
    simp only at g
    split at g
    · rename_i i
      cases g
      exact vIx0 r1 r2 e1 fun u r => h u P H E_ New.refl (rl_imm r i)
    · cases g
end
section
variable {X : Cx} {RX : RXR} {W : WX} {a b : Expr} {pos : Pos}
theorem dv_ixU {f k : Ev → Option D} (hu : X.A.units + 1 < cLine) (ha : DV X a f) (hb : DV X b k) (hs : PlainIx b) : DV X (.Subscript a b pos) (vOp2 gIx f k) := by
  refine pe_imp (pe_ix (ix_U hu) ha hb hs) fun σ H Q h => ?_
  obtain ⟨P, ρ, FE, S, h⟩ := h
  refine ⟨P, ρ, FE, S, ?_⟩
  unfold vOp2 at h
  cases e : f ρ with
  | none => simp only [e, Option.bind] at h
  | some d =>
    simp only [e, Option.bind] at h
    intro v P1 H1 n1 r1
    refine ⟨P1, ρ, FE, n1.stt S, ?_⟩
    cases e1 : k ρ with
    | none => simp only [e1] at h
    | some d' =>
      simp only [e1] at h
      intro w P2 H2 n2 r2
      cases e2 : gIx d d' with
      | none => simp only [e2] at h
      | some x =>
        simp only [e2] at h
        have r1' : Rl false X.K P2 H2 d v E_ := rl_mono r1 n2.mono (fun b o e _ => n2.same b o e) (fun _ q => q)
        exact vIx0 r1' r2 e2 fun u r => h u P2 H2 (n1.trans_ n2) r
theorem de_ixU {f k : Ev → R D} (hu : X.A.units + 1 < cLine) (ha : DE X RX W a f) (hb : DE X RX W b k) (hs : PlainIx b) : DE X RX W (.Subscript a b pos) (fOp2 gIxI f k) := de_ix (ix_U hu) vIxI ha hb hs
/-- a look, the index with its effects: the look is taken behind it -/
def fIxE (i : Nat) (k : Ev → R D) : Ev → R D := fun ρ => match ρ[i]? with
  | some (some _) => (k ρ).bind fun e ρ1 => (match ρ1[i]? with
    | some (some d) => R.of (gIxI d e) ρ1
    | _ => .stk)
  | _ => .stk
end
end Hap
namespace Hap
open PySem PySem.Spec PyProof.Rows L2
variable [TabC]
section
variable {K : PySem.W.Frag}
def gList (ds : List D) : Option D := match ds with
  | [.lst _ xs] => if isImms xs = true then some (.lst true xs) else none
  | [.rol xs] => if isImms xs = true then some (.lst true xs) else none
  | [.tup xs] => if isImms xs = true then some (.lst true xs) else none
  | _ => none
abbrev rListU (K : PySem.W.Frag) : List V → Hp → VK → Prop := fun xs H Q => ∃ p ys, xs = [.ref p] ∧ (SqL K H p ys ∨ SqT K H p ys) ∧ ∀ l, H l = none → Q (.ref l) (upd H l (.lst ys))
theorem vList : VOpN K (rListU K) gList := by
  intro P H ds vs x Q pin rs g h
  unfold gList at g
  split at g
  · obtain ⟨v, rfl, r⟩ := rls1 rs
    split at g
    · rename_i i
      cases g
      obtain ⟨p, vs, rfl, e, r2⟩ := lst_read r
      exact ⟨p, vs, rfl, .inl (.inl (.inl e)), fun l hl => let ⟨n, r⟩ := new_lst hl pin i r2; h _ _ _ _ n r⟩
    · cases g
  · obtain ⟨v, rfl, r⟩ := rls1 rs
    split at g
    · rename_i i
      cases g
      obtain ⟨p, vs, rfl, e, r2⟩ := rol_read r
      exact ⟨p, vs, rfl, .inl e, fun l hl => let ⟨n, r⟩ := new_lst hl pin i r2; h _ _ _ _ n r⟩
    · cases g
  · obtain ⟨v, rfl, r⟩ := rls1 rs
    split at g
    · rename_i i
      cases g
      obtain ⟨p, vs, rfl, e, _, r2⟩ := tup_read r
      exact ⟨p, vs, rfl, .inr (.inl (.inl e)), fun l hl => let ⟨n, r⟩ := new_lst hl pin i r2; h _ _ _ _ n r⟩
    · cases g
  · cases g
def gTuple (ds : List D) : Option D := match ds with
  | [.lst _ xs] => if isImms xs = true then some (.tup xs) else none
  | [.tup xs] => if isImms xs = true then some (.tup xs) else none
  | _ => none
abbrev rTupleU (K : PySem.W.Frag) : List V → Hp → VK → Prop := fun xs H Q => ∃ p ys, xs = [.ref p] ∧ ((SqL K H p ys ∧ ∀ l, H l = none → Q (.ref l) (upd H l (.tup ys))) ∨ (SqT K H p ys ∧ Q (.ref p) H))
theorem new_tup {P : AS} {H : Hp} {p : Addr} {ds : List D} {vs : List V} (hp : H p = none) (i : isImms ds = true) (rs : Rls false K P H ds vs E_) :
    New P H (fun b => P b ∨ b = p) (upd H p (.tup vs)) E_ ∧ Rl true K (fun b => P b ∨ b = p) (upd H p (.tup vs)) (.tup ds) (.ref p) E_ :=
  ⟨New.tup hp, .tup upd_same (.inr rfl) (rls_mono (z := true) (F := E_) (rls_imm rs i) (fun _ q => .inl q) (fun b o e _ _ => by rw [upd_ne (ne_of_none e hp)]; exact e) fun _ z => z)⟩
theorem vTuple : VOpN K (rTupleU K) gTuple := by
  intro P H ds vs x Q pin rs g h
  unfold gTuple at g
  split at g
  · obtain ⟨v, rfl, r⟩ := rls1 rs
    split at g
    · rename_i i
      cases g
      obtain ⟨p, vs, rfl, e, r2⟩ := lst_read r
      exact ⟨p, vs, rfl, .inl ⟨.inl (.inl e), fun l hl => let ⟨n, r⟩ := new_tup hl i r2; h _ _ _ _ n r⟩⟩
    · cases g
  · obtain ⟨v, rfl, r⟩ := rls1 rs
    split at g
    · rename_i i
      cases g
      obtain ⟨p, vs, rfl, e, _, r2⟩ := tup_read r
      refine ⟨p, vs, rfl, .inr ⟨.inl (.inl e), h _ P H E_ New.refl (rl_imm r (by simpa only [isImm] using i))⟩⟩
    · cases g
  · cases g
def boolsD : List D → Option (List Bool)
  | [] => some []
  | .bl b :: ds => (boolsD ds).map (b :: ·)
  | _ :: _ => none
def strsD : List D → Option (List Str)
  | [] => some []
  | .str b :: ds => (strsD ds).map (b :: ·)
  | _ :: _ => none
omit [TabC] in
theorem boolsD_cons {d : D} {ds : List D} {bs : List Bool} (h : boolsD (d :: ds) = some bs) : ∃ b cs, d = .bl b ∧ boolsD ds = some cs ∧ bs = b :: cs := by
  cases d <;> simp only [boolsD] at h <;> try (cases h; done)
  cases e : boolsD ds with
  | none => rw [e] at h; cases h
  | some cs => rw [e] at h; cases h; exact ⟨_, cs, rfl, rfl, rfl⟩
theorem bools_rls {P : AS} {H : Hp} {z : Bool} : ∀ {ds : List D} {vs : List V} {F : AS} {bs : List Bool}, Rls z K P H ds vs F → boolsD ds = some bs → vs = bs.map V.bl
  | _, _, _, _, .nil, h => by cases h; rfl
  | _, _, _, _, .cons (d := d) (ds := ds) r rs _ _ _, h => by
    obtain ⟨b, cs, rfl, h2, rfl⟩ := boolsD_cons h
    rw [rl_bl r, bools_rls rs h2]; rfl
omit [TabC] in
theorem strsD_cons {d : D} {ds : List D} {bs : List Str} (h : strsD (d :: ds) = some bs) : ∃ b cs, d = .str b ∧ strsD ds = some cs ∧ bs = b :: cs := by
  cases d <;> simp only [strsD] at h <;> try (cases h; done)
  cases e : strsD ds with
  | none => rw [e] at h; cases h
  | some cs => rw [e] at h; cases h; exact ⟨_, cs, rfl, rfl, rfl⟩
theorem strs_rls {P : AS} {H : Hp} {z : Bool} : ∀ {ds : List D} {vs : List V} {F : AS} {bs : List Str}, Rls z K P H ds vs F → strsD ds = some bs → vs = bs.map V.str
  | _, _, _, _, .nil, h => by cases h; rfl
  | _, _, _, _, .cons (d := d) (ds := ds) r rs _ _ _, h => by
    obtain ⟨b, cs, rfl, h2, rfl⟩ := strsD_cons h
    rw [rl_str r, strs_rls rs h2]; rfl
/-- the items of a list, read -/
def lstOf (d : D) : Option (List D) := match d with
  | .lst _ xs => some xs
  | .rol xs => some xs
  | _ => none
omit [TabC] in
theorem lstOf_read {P : AS} {H : Hp} {z : Bool} {d : D} {v : V} {F : AS} {xs : List D} (r : Rl z K P H d v F) (h : lstOf d = some xs) : ∃ p vs, v = .ref p ∧ SqL K H p vs ∧ Rls false K P H xs vs E_ := by
  unfold lstOf at h
  split at h
  · cases h; obtain ⟨p, vs, rfl, e, r2⟩ := lst_read r; exact ⟨p, vs, rfl, .inl (.inl e), r2⟩
  · cases h; obtain ⟨p, vs, rfl, e, r2⟩ := rol_read r; exact ⟨p, vs, rfl, e, r2⟩
  · cases h
def gAny (ds : List D) : Option D := match ds with
  | [d] => (lstOf d).bind fun xs => (boolsD xs).map fun bs => .bl (bs.any id)
  | _ => none
def gAll (ds : List D) : Option D := match ds with
  | [d] => (lstOf d).bind fun xs => (boolsD xs).map fun bs => .bl (bs.all id)
  | _ => none
theorem lst1 {α : Type} {P : AS} {H : Hp} {ds : List D} {vs : List V} {x : D} {f : List D → Option α} {k : α → D} {G : List D → Option D} (rs : Rls false K P H ds vs E_) (g : G ds = some x) (hG : ∀ ds, G ds = match ds with
  | [d] => (lstOf d).bind fun xs => (f xs).map k
  | _ => none) : ∃ p ws xs a, vs = [.ref p] ∧ SqL K H p ws ∧ Rls false K P H xs ws E_ ∧ f xs = some a ∧ x = k a := by
  rw [hG] at g
  split at g
  · rename_i d
    obtain ⟨v, rfl, r⟩ := rls1 rs
    cases e : lstOf d with
    | none => rw [e] at g; cases g
    | some xs =>
      rw [e] at g
      obtain ⟨p, ws, rfl, s, r2⟩ := lstOf_read r e
      cases e2 : f xs with
      | none => simp only [Option.bind, e2] at g; cases g
      | some a => simp only [Option.bind, e2] at g; cases g; exact ⟨p, ws, xs, a, rfl, s, r2, e2, rfl⟩
  · cases g
theorem vAll : VOpN K (rAll K) gAll := by
  intro P H ds vs x Q pin rs g h
  obtain ⟨p, ws, xs, bs, rfl, s, r, e, rfl⟩ := lst1 (f := boolsD) (k := fun bs => .bl (bs.all id)) (G := gAll) rs g (fun ds => by unfold gAll; rfl)
  rw [bools_rls r e] at s
  exact ⟨p, bs, rfl, s, h _ P H E_ New.refl .bl⟩
def gAbs (ds : List D) : Option D := match ds with
  | [.int i] => some (.int (if i < 0 then -i else i))
  | _ => none
theorem vAbs : VOpN K (fun xs H Q => ∃ i, xs = [.int i] ∧ Q (.int (if i < 0 then -i else i)) H) gAbs := by
  intro P H ds vs x Q pin rs g h
  unfold gAbs at g
  split at g
  · cases g
    obtain ⟨v, rfl, r⟩ := rls1 rs
    rw [rl_int r]
    exact ⟨_, rfl, h _ P H E_ New.refl .int⟩
  · cases g
def gMax2 (ds : List D) : Option D := match ds with
  | [.int i, .int j] => some (.int (if j > i then j else i))
  | _ => none
def gMin2 (ds : List D) : Option D := match ds with
  | [.int i, .int j] => some (.int (if j < i then j else i))
  | _ => none
theorem vMax2 : VOpN K (fun xs H Q => ∃ i j, xs = [.int i, .int j] ∧ Q (.int (if j > i then j else i)) H) gMax2 := by
  intro P H ds vs x Q pin rs g h
  unfold gMax2 at g
  split at g
  · cases g
    obtain ⟨v, w, _, _, rfl, r, r', _⟩ := rls2 rs
    rw [rl_int r, rl_int r']
    exact ⟨_, _, rfl, h _ P H E_ New.refl .int⟩
  · cases g
theorem vMin2 : VOpN K (fun xs H Q => ∃ i j, xs = [.int i, .int j] ∧ Q (.int (if j < i then j else i)) H) gMin2 := by
  intro P H ds vs x Q pin rs g h
  unfold gMin2 at g
  split at g
  · cases g
    obtain ⟨v, w, _, _, rfl, r, r', _⟩ := rls2 rs
    rw [rl_int r, rl_int r']
    exact ⟨_, _, rfl, h _ P H E_ New.refl .int⟩
  · cases g
def gInt (ds : List D) : Option D := match ds with
  | [.int i] => some (.int i)
  | [.bl b] => some (.int (if b = true then 1 else 0))
  | _ => none
theorem vInt : VOpN K (fun xs H Q => (∃ i, xs = [.int i] ∧ Q (.int i) H) ∨ ∃ k, xs = [.bl k] ∧ Q (.int (if k then 1 else 0)) H) gInt := by
  intro P H ds vs x Q pin rs g h
  unfold gInt at g
  split at g
  · cases g
    obtain ⟨v, rfl, r⟩ := rls1 rs
    rw [rl_int r]
    exact .inl ⟨_, rfl, h _ P H E_ New.refl .int⟩
  · cases g
    obtain ⟨v, rfl, r⟩ := rls1 rs
    rw [rl_bl r]
    exact .inr ⟨_, rfl, h _ P H E_ New.refl .int⟩
  · cases g
def tyN (d : D) : String := match d with
  | .non => "NoneType"
  | .bl _ => "bool"
  | .int _ => "int"
  | .str _ => "str"
  | .lst _ _ => "list"
  | .rol _ => "list"
  | .tup _ => "tuple"
  | .dct _ _ _ => "dict"
  | .dcT _ _ _ => "dict"
  | .gv _ => "?"
  | .obj _ _ _ _ => "?"
/-- a thing whose type is not told here: a type, a dict that may be locked -/
def noTy (d : D) : Bool := match d with
  | .gv _ => true
  | .obj _ _ _ _ => true
  | .dct false _ _ => true
  | .dcT false _ _ => true
  | _ => false
def gIsi (ds : List D) : Option D := match ds with
  | [d, .gv (.ty n)] => if noTy d = true then none else (kitB (tyN d) n).map .bl
  | _ => none
omit [TabC] in
theorem ty_of {P : AS} {H : Hp} {d : D} {v : V} {z : Bool} {F : AS} (r : Rl z K P H d v F) (n : noTy d = false) : TyX K H v (.type (tyN d)) := by
  cases r with
  | non => exact .base .non
  | bl => exact .base (.bl _)
  | int => exact .base (.int _)
  | str => exact .base (.str _)
  | lstO e f s r => exact .base (.lst e)
  | lstI e p i r => exact .base (.lst e)
  | tup e p r => exact .base (.tup e)
  | dctO e k l f s r => exact .base (.dK e)
  | dctI e k l p i r => cases n
  | dcTO e k l f s r => exact .base (.dT e)
  | dcTI e k l p i r => cases n
  | rol e i r =>
    rcases e with ⟨_, e | ⟨o, e⟩⟩ | ⟨o, its, nn, e, c, _⟩
    · exact .base (.lst e)
    · exact .base (.frz e)
    · exact .kList e c
  | gv => cases n
  | objO e k l f s r => cases n
  | objI e k l p i r => cases n
theorem vIsi : VOpN K (rIsi K) gIsi := by
  intro P H ds vs x Q pin rs g h
  unfold gIsi at g
  split at g
  · rename_i d n
    split at g
    · cases g
    · rename_i ng
      cases e : kitB (tyN d) n with
      | none => rw [e] at g; cases g
      | some b =>
        rw [e] at g; cases g
        obtain ⟨v, w, _, _, rfl, r, r', _⟩ := rls2 rs
        cases r' with
        | gv => exact ⟨v, .ty n, _, _, b, rfl, .ty n, ty_of r (by simpa using ng), kit_ty e, h _ P H E_ New.refl .bl⟩
  · cases g
end
end Hap
namespace Hap
open PySem PySem.Spec PyProof.Rows L2
variable [TabC]
section
variable {X : Cx} {RX : RXR} {W : WX} {e : Expr} {es : List Expr} {pos p : Pos}
def fLst (f : Ev → R (List D)) : Ev → R D := fun ρ => (f ρ).bind fun ds ρ1 => if ds.length ≤ sizeLine then .ok (.lst true ds) ρ1 else .stk
def fTup (f : Ev → R (List D)) : Ev → R D := fun ρ => (f ρ).bind fun ds ρ1 => if ds.length ≤ sizeLine then .ok (.tup ds) ρ1 else .stk
theorem de_lst {f : Ev → R (List D)} (h : DA X RX W es f) : DE X RX W (.List es pos) (fLst f) := by
  refine pe_imp (pe_lst h) fun σ H Q q => ?_
  obtain ⟨P, ρ, FE, S, q⟩ := q
  refine ⟨P, ρ, FE, S, ?_⟩
  unfold fLst at q
  cases e : f ρ with
  | exc x ρ1 => simp only [e, R.bind] at q; exact q
  | stk => simp only [e, R.bind] at q
  | ok ds ρ1 =>
    simp only [e, R.bind] at q
    intro vs P1 H1 FE1 F1 S1 T1 t1
    by_cases c : ds.length ≤ sizeLine
    · simp only [if_pos c] at q
      refine ⟨by rw [← rls_len T1.rl]; exact c, fun a ha => ?_⟩
      have n : New P1 H1 P1 (upd H1 a (.lst vs)) (fun b => b = a) := New.lst ha S1.pin
      refine q (.ref a) P1 _ FE1 (fun b => F1 b ∨ b = a) (n.stt S1) ⟨.lstO (F' := F1) upd_same (fun _ => .inr rfl) (fun b z => ⟨.inl z, fun w => (T1.own b z).1 (by rw [w]; exact ha)⟩) (rls_mono T1.rl (fun _ q => q) (fun b o e _ => n.same b o e) fun _ q => q), fun b z => ?_⟩ ((t1.trans (n.tr (U0 := fun b => U FE1 b ∨ F1 b))).less fun b z => z.elim (fun z => .inl (.inl z)) fun z => z.elim (fun z => .inl (.inr z)) .inr)
      rcases z with z | z
      · exact ⟨n.alive b (T1.own b z).1, (T1.own b z).2⟩
      · subst z
        exact ⟨by rw [upd_same]; simp, fun w => S1.pin _ w ha, fun ⟨i, w⟩ => (S1.fin i _ w).1 ha⟩
    · simp only [if_neg c] at q
theorem de_tup {f : Ev → R (List D)} {x1} (h : DA X RX W es f) : DE X RX W (.Tuple es x1 pos) (fTup f) := by
  refine pe_imp (pe_tup h) fun σ H Q q => ?_
  obtain ⟨P, ρ, FE, S, q⟩ := q
  refine ⟨P, ρ, FE, S, ?_⟩
  unfold fTup at q
  cases e : f ρ with
  | exc x ρ1 => simp only [e, R.bind] at q; exact q
  | stk => simp only [e, R.bind] at q
  | ok ds ρ1 =>
    simp only [e, R.bind] at q
    intro vs P1 H1 FE1 F1 S1 T1 t1
    by_cases c : ds.length ≤ sizeLine
    · simp only [if_pos c] at q
      refine ⟨by rw [← rls_len T1.rl]; exact c, fun a ha => ?_⟩
      have n : New P1 H1 (fun b => P1 b ∨ b = a) (upd H1 a (.tup vs)) E_ := New.tup ha
      refine q (.ref a) _ _ FE1 F1 (n.stt S1) ⟨.tup upd_same (.inr rfl) (rls_mono T1.rl n.mono (fun b o e _ => n.same b o e) fun _ q => q), fun b z => ⟨n.alive b (T1.own b z).1, fun w => w.elim (T1.own b z).2.1 fun w => (T1.own b z).1 (by rw [w]; exact ha), (T1.own b z).2.2⟩⟩
        ((t1.trans (n.tr (U0 := fun b => U FE1 b ∨ F1 b))).less fun b z => .inl z)
    · simp only [if_neg c] at q
end
end Hap
namespace Hap
open PySem PySem.Spec PyProof.Rows L2
variable [TabC]
section
variable {K : PySem.W.Frag} {P : AS} {H : Hp} {FE : FP} {ρ : Ev} {σ : L2.St}
theorem slot_write {i : Nat} {p : Addr} {o u0 : HO} {d' : D} {F1 : AS} (S : Stt K P H ρ σ FE) (he : H p = some u0) (nd : Nd u0) (hv : σ[i]? = some (some (.ref p))) (hp : FE i p) (own : ∀ b, F1 b → H b ≠ none ∧ ¬ P b ∧ ¬ U FE b)
    (r : Rl true K P (upd H p o) d' (.ref p) (fun b => FE i b ∨ F1 b)) :
    Stt K P (upd H p o) (ρ.set i (some d')) σ (fun j b => FE j b ∨ (j = i ∧ F1 b)) ∧ Tr P H (fun b => U FE b ∨ F1 b) P (upd H p o) (U fun j b => FE j b ∨ (j = i ∧ F1 b)) := by
  have nP : ¬ P p := (S.fin i p hp).2
  have al : ∀ b, H b ≠ none → upd H p o b ≠ none := fun b h => by
    by_cases e : b = p
    · subst e; rw [upd_same]; simp
    · rw [upd_ne e]; exact h
  refine ⟨⟨fun b q => al b (S.pin b q), fun j b q => ?_, fun j k b q w => ?_, fun j d e => ?_, by simpa using S.len, tabs_write S.tab he nd⟩, ⟨fun b u e n nt => ?_, fun _ q => q, fun _ q => .inl q, fun b q => ?_, al⟩⟩
  · rcases q with q | q
    · exact ⟨al b (S.fin j b q).1, (S.fin j b q).2⟩
    · exact ⟨al b (own b q.2).1, (own b q.2).2.1⟩
  · rcases q with q | q <;> rcases w with w | w
    · exact S.dj j k b q w
    · exact ((own b w.2).2.2 ⟨j, q⟩).elim
    · exact ((own b q.2).2.2 ⟨k, w⟩).elim
    · exact q.1.trans w.1.symm
  · by_cases h : j = i
    · subst h
      have hl : j < ρ.length := by
        have := (List.getElem?_eq_some_iff.mp e).1
        simpa using this
      rw [List.getElem?_set_self hl] at e
      cases e
      exact ⟨_, hv, rl_mono r (fun _ q => q) (fun _ _ e _ _ => e) fun b q => q.imp id fun w => ⟨rfl, w⟩⟩
    · rw [List.getElem?_set_ne (Ne.symm h)] at e
      obtain ⟨v, e1, r1⟩ := S.rel j d e
      refine ⟨v, e1, rl_mono r1 (fun _ q => q) (fun b u e q _ => ?_) fun b q => .inl q⟩
      rw [upd_ne]
      · exact e
      · intro z; subst z
        exact (q rfl).elim nP fun w => h (S.dj _ _ _ w hp)
  · rw [upd_ne]
    · exact e
    · intro z; subst z; exact n (.inl ⟨i, hp⟩)
  · obtain ⟨j, q | q⟩ := q
    · exact .inl (.inl ⟨j, q⟩)
    · exact .inl (.inr q.2)
/-- what stands at a slot that is a list, a dict of one's own -/
theorem slot_lst {i : Nat} {xs : List D} (S : Stt K P H ρ σ FE) (e : ρ[i]? = some (some (.lst true xs))) : ∃ p vs F', σ[i]? = some (some (.ref p)) ∧ H p = some (.lst vs) ∧ FE i p ∧ (∀ b, F' b → FE i b ∧ b ≠ p) ∧ Rls true K P H xs vs F' := by
  obtain ⟨v, ev, r⟩ := S.rel i _ e
  cases r with
  | lstO h f s rs => exact ⟨_, _, _, ev, h, f rfl, s, rs⟩
omit [TabC] in
/-- the items stay while the list's own object is written -/
theorem rls_upd {p : Addr} {o : HO} {ds : List D} {vs : List V} {F' : AS} (rs : Rls true K P H ds vs F') (nP : ¬ P p) (nF : ¬ F' p) : Rls true K P (upd H p o) ds vs F' :=
  rls_mono rs (fun _ q => q) (fun b u e q _ => by
    rw [upd_ne]
    · exact e
    · intro z; subst z; exact (q rfl).elim nP nF) fun _ q => q
omit [TabC] in
theorem rl_upd {p : Addr} {o : HO} {d : D} {v : V} {F' : AS} (rs : Rl true K P H d v F') (nP : ¬ P p) (nF : ¬ F' p) : Rl true K P (upd H p o) d v F' :=
  rl_mono rs (fun _ q => q) (fun b u e q _ => by
    rw [upd_ne]
    · exact e
    · intro z; subst z; exact (q rfl).elim nP nF) fun _ q => q
omit [TabC] in
theorem rls_set {z : Bool} {d : D} {v : V} {F1 : AS} : ∀ {ds : List D} {vs : List V} {F F2 : AS} (j : Nat), Rls z K P H ds vs F2 → Rl z K P H d v F1 → (∀ b, F2 b → F b) → (∀ b, F1 b → F b) → (∀ b, F1 b → F2 b → False) → Rls z K P H (ds.set j d) (vs.set j v) F
  | _, _, _, _, _, .nil, _, _, _, _ => .nil
  | _, _, F, F2, 0, .cons (F1 := G1) (F2 := G2) r rs s1 s2 dj, q, t2, t1, dd => .cons (F1 := F1) (F2 := G2) q rs t1 (fun b z => t2 b (s2 b z)) fun b z w => dd b z (s2 b w)
  | _, _, F, F2, j + 1, .cons (F1 := G1) (F2 := G2) r rs s1 s2 dj, q, t2, t1, dd =>
    .cons (F1 := G1) (F2 := fun b => G2 b ∨ F1 b) r (rls_set j rs q (fun _ z => .inl z) (fun _ z => .inr z) fun b z w => dd b z (s2 b w)) (fun b z => t2 b (s1 b z)) (fun b z => z.elim (fun z => t2 b (s2 b z)) (t1 b)) fun b z w => w.elim (dj b z) fun w => dd b w (s1 b z)
end
def fAppend (i : Nat) (f : Ev → R (List D)) : Ev → RS := fun ρ => match ρ[i]? with
  | some (some (.lst _ _)) => RS.of (f ρ) fun ds ρ1 => (match ds with
    | [d] => (match ρ1[i]? with
      | some (some (.lst true xs)) => if xs.length < sizeLine then .nx (ρ1.set i (some (.lst true (xs ++ [d])))) else .stk
      | _ => .stk)
    | _ => .stk)
  | _ => .stk
def fSetL (i : Nat) (f k : Ev → R D) : Ev → RS := fun ρ => RS.of (f ρ) fun d ρ1 => match ρ1[i]? with
  | some (some _) => RS.of (k ρ1) fun e ρ2 => (match e with
    | .int n => (match ρ2[i]? with
      | some (some (.lst true xs)) => (match ixN xs.length n with
        | some j => .nx (ρ2.set i (some (.lst true (xs.set j d))))
        | none => .stk)
      | _ => .stk)
    | _ => .stk)
  | _ => .stk
def fAug (i : Nat) (g : D → D → Option D) (f : Ev → R D) : Ev → RS := fun ρ => match ρ[i]? with
  | some (some d0) => if isImm d0 = true then RS.of (f ρ) fun d ρ1 => (match g d0 d with
    | some x => .nx (ρ1.set i (some x))
    | none => .stk) else .stk
  | _ => .stk
section
variable {X : Cx} {RX : RXR} {W : WX} {kp : List Nat}
theorem ds_append {s : Stmt} {i : Nat} {f : Ev → R (List D)} (h : PS X s (tDrop (tBM X.K "list" rAppend (tVar i) (tA X.K RX W f)))) : DS X RX W kp s (fAppend i f) := by
  refine ps_imp h fun D σ H q => ?_
  obtain ⟨P, ρ, FE, S, q⟩ := q
  unfold fAppend at q
  split at q
  · rename_i o xs e0
    obtain ⟨v, ev, r⟩ := S.rel i _ e0
    obtain ⟨p, vs, rfl, e, rs⟩ := lst_read r
    refine ⟨.ref p, ev, .inl ⟨rfl, vs, .inl (.inl e)⟩, P, ρ, FE, S, ?_⟩
    cases e1 : f ρ with
    | exc x ρ1 => simp only [e1, RS.of] at q; exact fun cls dx P' H' FE' S' t r => q cls dx σ P' H' FE' S' t Kp.refl r
    | stk => simp only [e1, RS.of] at q; exact q.elim
    | ok ds ρ1 =>
      simp only [e1, RS.of] at q
      intro ws P1 H1 FE1 F1 S1 T1 t1
      split at q
      · rename_i d
        split at q
        · rename_i ys e2
          split at q
          · rename_i hl
            obtain ⟨p', vs', F', ev', h1, h2, h3, h4⟩ := slot_lst S1 e2
            rw [ev] at ev'; cases ev'
            obtain ⟨w, rfl, rw'⟩ := rls1 T1.rl
            have nP := (S1.fin i p h2).2
            have nF1 : ¬ F1 p := fun z => (T1.own p z).2.2 ⟨i, h2⟩
            have nF' : ¬ F' p := fun z => (h3 p z).2 rfl
            obtain ⟨S2, t2⟩ := slot_write (o := .lst (vs' ++ [w])) (d' := .lst true (ys ++ [d])) S1 h1 .lst ev h2 T1.own (.lstO (F' := fun b => F' b ∨ F1 b) upd_same (fun _ => .inl h2) (fun b z => z.elim (fun z => ⟨.inl (h3 b z).1, (h3 b z).2⟩) fun z => ⟨.inr z, fun w => nF1 (by rw [← w]; exact z)⟩)
              (rls_snoc (rls_upd h4 nP nF') (rl_upd rw' nP nF1) (fun _ z => .inl z) (fun _ z => .inr z) fun b z w => (T1.own b w).2.2 ⟨i, (h3 b z).1⟩))
            exact ⟨p, vs', w, rfl, rfl, h1, by rw [← rls_len h4]; exact hl, q σ P1 _ _ S2 (t1.trans t2) Kp.refl⟩
          · exact q.elim
        · exact q.elim
      · exact q.elim
  · exact q.elim
theorem ds_setL {s : Stmt} {i : Nat} {f k : Ev → R D} (h : PS X s (tAsg (tE X.K RX W f) (L2.gSub (tVar i) (tE X.K RX W k) rSetL))) : DS X RX W kp s (fSetL i f k) := by
  refine ps_imp h fun D σ H q => ?_
  obtain ⟨P, ρ, FE, S, q⟩ := q
  refine ⟨P, ρ, FE, S, ?_⟩
  unfold fSetL at q
  cases e : f ρ with
  | exc x ρ1 => simp only [e, RS.of] at q; exact fun cls dx P' H' FE' S' t r => q cls dx σ P' H' FE' S' t Kp.refl r
  | stk => simp only [e, RS.of] at q; exact q.elim
  | ok d ρ1 =>
    simp only [e, RS.of] at q
    intro v P1 H1 FE1 F1 S1 T1 t1
    split at q
    · rename_i d0 e0
      obtain ⟨vp, ev, _⟩ := S1.rel i _ e0
      refine ⟨vp, ev, P1, ρ1, FE1, S1, ?_⟩
      cases e1 : k ρ1 with
      | exc x ρ2 => simp only [e1] at q; exact fun cls dx P' H' FE' S' t r => q cls dx σ P' H' FE' S' (t1.less'.trans t) Kp.refl r
      | stk => simp only [e1] at q; exact q.elim
      | ok ee ρ2 =>
        simp only [e1] at q
        intro w P2 H2 FE2 F2 S2 T2 t2
        split at q
        · rename_i n
          split at q
          · rename_i xs e3
            split at q
            · rename_i j ej
              obtain ⟨p, vs, F', ev', h1, h2, h3, h4⟩ := slot_lst S2 e3
              rw [ev] at ev'; cases ev'
              obtain ⟨T1', _⟩ := T1.step S1 t2
              have nP := (S2.fin i p h2).2
              have nF1 : ¬ F1 p := fun z => (T1'.own p z).2.2 ⟨i, h2⟩
              have nF' : ¬ F' p := fun z => (h3 p z).2 rfl
              obtain ⟨S3, t3⟩ := slot_write (o := .lst (vs.set j v)) (d' := .lst true (xs.set j d)) S2 h1 .lst ev h2 T1'.own (.lstO (F' := fun b => F' b ∨ F1 b) upd_same (fun _ => .inl h2) (fun b z => z.elim (fun z => ⟨.inl (h3 b z).1, (h3 b z).2⟩) fun z => ⟨.inr z, fun w => nF1 (by rw [← w]; exact z)⟩)
                (rls_set j (rls_upd h4 nP nF') (rl_upd T1'.rl nP nF1) (fun _ z => .inl z) (fun _ z => .inr z) fun b z w => (T1'.own b z).2.2 ⟨i, (h3 b w).1⟩))
              rw [rl_int T2.rl]
              refine ⟨p, vs, n, j, rfl, rfl, h1, by rw [← rls_len h4]; exact ej, q σ P2 _ _ S3 ((t1.seq t2.less').trans ?_) Kp.refl⟩
              exact t3
            · exact q.elim
          · exact q.elim
        · exact q.elim
    · exact q.elim
theorem ds_aug {s : Stmt} {i : Nat} {f : Ev → R D} {ti : TIp} {g : D → D → Option D} (hv : VOp2 X.K ti g) (h : PS X s (tAug i (tE X.K RX W f) ti)) (hk : i ∉ kp) : DS X RX W kp s (fAug i g f) := by
  refine ps_imp h fun D σ H q => ?_
  obtain ⟨P, ρ, FE, S, q⟩ := q
  unfold fAug at q
  split at q
  · rename_i d0 e0
    split at q
    · rename_i im
      obtain ⟨v0, ev, r0⟩ := S.rel i _ e0
      refine ⟨v0, ev, P, ρ, FE, S, ?_⟩
      cases e1 : f ρ with
      | exc x ρ1 => simp only [e1, RS.of] at q; exact fun cls dx P' H' FE' S' t r => q cls dx σ P' H' FE' S' t Kp.refl r
      | stk => simp only [e1, RS.of] at q; exact q.elim
      | ok d ρ1 =>
        simp only [e1, RS.of] at q
        intro w P1 H1 FE1 F1 S1 T1 t1
        have T0 : Tmp X.K P H FE d0 v0 E_ := ⟨rl_imm r0 im, fun b z => z.elim⟩
        have T0' := (T0.step S t1).1
        cases e2 : g d0 d with
        | none => simp only [e2] at q; exact q.elim
        | some x =>
          simp only [e2] at q
          refine hv P1 H1 d0 d v0 w x _ S1.pin (rl_view T0'.rl) (rl_view T1.rl) e2 fun u P2 H2 F2 n r => ?_
          have S2 := n.stt S1
          exact q (σ.set i (some u)) P2 H2 _ (S2.set (n.tmp S1 r) i) ((t1.less'.trans n.tr).less fun b z => Stt.set_sub i b z) (Kp.set hk)
    · exact q.elim
  · exact q.elim
end
end Hap
namespace Hap
open PySem PySem.Spec PyProof.Rows L2
variable [TabC]
def fChain (g g' : D → D → Option D) (fa fb fc : Ev → R D) : Ev → R D := fun ρ => (fa ρ).bind fun a ρ1 => (fb ρ1).bind fun b ρ2 => match g a b with
  | some (.bl k) => if k = true then (fc ρ2).bind fun c ρ3 => R.of (g' b c) ρ3 else .ok (.bl false) ρ2
  | _ => .stk
section
variable {K : PySem.W.Frag} {RX : RXR} {W : WX} {σ : L2.St} {H : Hp}
theorem e_chain {r r' : R2} {g g' : D → D → Option D} {fa fb fc : Ev → R D} (hv : VOp2 K r g) (hv' : VOp2 K r' g') {Q : VK} (q : tE K RX W (fChain g g' fa fb fc) σ H Q) : tChain r r' (tE K RX W fa) (tE K RX W fb) (tE K RX W fc) σ H Q := by
  obtain ⟨P, ρ, FE, S, q⟩ := q
  refine ⟨P, ρ, FE, S, ?_⟩
  unfold fChain at q
  cases e : fa ρ with
  | exc x ρ1 => simp only [e, R.bind] at q; exact q
  | stk => simp only [e, R.bind] at q
  | ok a ρ1 =>
    simp only [e, R.bind] at q
    intro va P1 H1 FE1 F1 S1 T1 t1
    refine ⟨P1, ρ1, FE1, S1, ?_⟩
    cases e1 : fb ρ1 with
    | exc x ρ2 => simp only [e1] at q; exact fun cls dx P2 H2 FE2 S2 t2 r => q cls dx P2 H2 FE2 S2 (t1.less'.trans t2) r
    | stk => simp only [e1] at q
    | ok b ρ2 =>
      simp only [e1] at q
      intro vb P2 H2 FE2 F2 S2 T2 t2
      have T1' := (T1.step S1 t2).1
      cases e2 : g a b with
      | none => simp only [e2] at q
      | some x =>
        cases x with
        | bl k =>
          simp only [e2] at q
          refine hv P2 H2 a b va vb _ _ S2.pin (rl_view T1'.rl) (rl_view T2.rl) e2 fun u P3 H3 F3 n3 r3 => ?_
          have S3 := n3.stt S2
          have t3 : Tr P H (U FE) P3 H3 (U FE2) := (t1.less'.trans t2.less').trans n3.tr.less'
          refine ⟨k, rl_bl r3, ?_⟩
          cases k with
          | false =>
            simp only [if_neg Bool.false_ne_true] at q ⊢
            exact q _ P3 H3 FE2 E_ S3 ⟨.bl, fun b z => z.elim⟩ (t3.less fun b z => z.elim id False.elim)
          | true =>
            simp only [if_pos] at q ⊢
            refine ⟨P3, ρ2, FE2, S3, ?_⟩
            cases e3 : fc ρ2 with
            | exc x ρ4 => simp only [e3] at q; exact fun cls dx P4 H4 FE4 S4 t4 r => q cls dx P4 H4 FE4 S4 (t3.trans t4) r
            | stk => simp only [e3] at q
            | ok c ρ4 =>
              simp only [e3] at q
              intro vc P4 H4 FE4 F4 S4 T4 t4
              have t24 : Tr P2 H2 (U FE2) P4 H4 (fun b => U FE4 b ∨ F4 b) := n3.tr.less'.trans t4
              have T2' := (T2.step S2 t24).1
              cases e4 : g' b c with
              | none => simp only [e4, R.of] at q
              | some x =>
                simp only [e4, R.of] at q
                exact hv' P4 H4 b c vb vc x Q S4.pin (rl_view T2'.rl) (rl_view T4.rl) e4 fun u P5 H5 F5 n r => q u P5 H5 FE4 F5 (n.stt S4) (n.tmp S4 r) ((t3.trans t4.less').trans n.tr)
        | _ => simp only [e2] at q
end
section
variable {X : Cx} {RX : RXR} {W : WX} {kp : List Nat} {a b c : Expr} {pos : Pos}
theorem dt_chain {op op' : CmpOp} {r r' : R2} {g g' : D → D → Option D} {fa fb fc : Ev → R D} (ho : OpR X (compareOp op) r) (hv : VOp2 X.K r g) (ho' : OpR X (compareOp op') r') (hv' : VOp2 X.K r' g') (ha : DE X RX W a fa) (hb : DE X RX W b fb) (hc : DE X RX W c fc)
    (hm : lastMarks [op, op'] [b, c] = false := by with_unfolding_all rfl) : DT X RX W (.Compare a [op, op'] [b, c] pos) (fTb (fChain g g' fa fb fc)) :=
  pt_imp (pt_chain ho ho' ha hb hc hm) fun σ H Q q => e_chain hv hv' (t_val q)
def VMt (K : PySem.W.Frag) (T : String) (r : V → List V → Hp → VK → Prop) (g : D → List D → Option D) (ty : D → Bool) : Prop :=
  (∀ (P : AS) (H : Hp) (d : D) (v : V), Rl false K P H d v E_ → ty d = true → tyV K T v H) ∧
  ∀ (P : AS) (H : Hp) (d : D) (ds : List D) (v : V) (vs : List V) (x : D) (Q : VK), (∀ b, P b → H b ≠ none) → Rl false K P H d v E_ → Rls false K P H ds vs E_ → g d ds = some x → (∀ u P' H' F, New P H P' H' F → Rl true K P' H' x u F → Q u H') → r v vs H Q
def fMeth (ty : D → Bool) (g : D → List D → Option D) (fo : Ev → R D) (fa : Ev → R (List D)) : Ev → R D := fun ρ => (fo ρ).bind fun d ρ1 => if ty d = true then (fa ρ1).bind fun ds ρ2 => R.of (g d ds) ρ2 else .stk
theorem de_meth {e : Expr} {T : String} {r : V → List V → Hp → VK → Prop} {g : D → List D → Option D} {ty : D → Bool} {fo : Ev → R D} {fa : Ev → R (List D)} (hv : VMt X.K T r g ty) (h : PE X e (tBM X.K T r (tE X.K RX W fo) (tA X.K RX W fa))) : DE X RX W e (fMeth ty g fo fa) := by
  refine pe_imp h fun σ H Q q => ?_
  obtain ⟨P, ρ, FE, S, q⟩ := q
  refine ⟨P, ρ, FE, S, ?_⟩
  unfold fMeth at q
  cases e : fo ρ with
  | exc x ρ1 => simp only [e, R.bind] at q; exact q
  | stk => simp only [e, R.bind] at q
  | ok d ρ1 =>
    simp only [e, R.bind] at q
    intro v P1 H1 FE1 F1 S1 T1 t1
    by_cases c : ty d = true
    · simp only [if_pos c] at q
      refine ⟨hv.1 P1 H1 d v (rl_view T1.rl) c, P1, ρ1, FE1, S1, ?_⟩
      cases e1 : fa ρ1 with
      | exc x ρ2 => simp only [e1] at q; exact fun cls dx P2 H2 FE2 S2 t2 r => q cls dx P2 H2 FE2 S2 (t1.less'.trans t2) r
      | stk => simp only [e1] at q
      | ok ds ρ2 =>
        simp only [e1] at q
        intro vs P2 H2 FE2 F2 S2 T2 t2
        have T1' := (T1.step S1 t2).1
        cases e2 : g d ds with
        | none => simp only [e2, R.of] at q
        | some x =>
          simp only [e2, R.of] at q
          exact hv.2 P2 H2 d ds v vs x Q S2.pin (rl_view T1'.rl) (rls_view T2.rl) e2 fun u P3 H3 F3 n r => q u P3 H3 FE2 F3 (n.stt S2) (n.tmp S2 r) ((t1.less'.trans t2.less').trans n.tr)
    · simp only [if_neg c] at q
/-- sep.join(texts) -/
def gJoin (d : D) (e : D) : Option D := match d with
  | .str a => (lstOf e).bind fun xs => (strsD xs).bind fun ys => if (ys.map (·.length)).sum + ys.length * a.length ≤ 16777216 then some (.str (Txt.join a ys)) else none
  | _ => none
def fJoin (fo fa : Ev → R D) : Ev → R D := fun ρ => (fo ρ).bind fun d ρ1 => match d with
  | .str _ => (fa ρ1).bind fun e ρ2 => R.of (gJoin d e) ρ2
  | _ => .stk
abbrev rJoinU (K : PySem.W.Frag) : V → List V → Hp → VK → Prop := fun x xs H Q => ∃ a p, ∃ ys : List Str, x = .str a ∧ xs = [.ref p] ∧ (SqL K H p (ys.map V.str) ∨ SqT K H p (ys.map V.str)) ∧
      (ys.map (·.length)).sum + ys.length * a.length ≤ 16777216 ∧ Q (.str (Txt.join a ys)) H
theorem de_join {e : Expr} {fo fa : Ev → R D} (h : PE X e (tM1 (rJoinU X.K) (tE X.K RX W fo) (tE X.K RX W fa))) : DE X RX W e (fJoin fo fa) := by
  refine pe_imp h fun σ H Q q => ?_
  obtain ⟨P, ρ, FE, S, q⟩ := q
  refine ⟨P, ρ, FE, S, ?_⟩
  unfold fJoin at q
  cases e : fo ρ with
  | exc x ρ1 => simp only [e, R.bind] at q; exact q
  | stk => simp only [e, R.bind] at q
  | ok d ρ1 =>
    simp only [e, R.bind] at q
    intro v P1 H1 FE1 F1 S1 T1 t1
    cases d with
    | str a =>
      simp only at q
      refine ⟨⟨a, rl_str T1.rl⟩, P1, ρ1, FE1, S1, ?_⟩
      cases e1 : fa ρ1 with
      | exc x ρ2 => simp only [e1] at q; exact fun cls dx P2 H2 FE2 S2 t2 r => q cls dx P2 H2 FE2 S2 (t1.less'.trans t2) r
      | stk => simp only [e1] at q
      | ok ee ρ2 =>
        simp only [e1, gJoin] at q
        intro w P2 H2 FE2 F2 S2 T2 t2
        cases e2 : lstOf ee with
        | none => simp only [e2, Option.bind, R.of] at q
        | some xs =>
          cases e3 : strsD xs with
          | none => simp only [e2, e3, Option.bind, R.of] at q
          | some ys =>
            by_cases c : (ys.map (·.length)).sum + ys.length * a.length ≤ 16777216
            · simp only [e2, e3, Option.bind, if_pos c, R.of] at q
              obtain ⟨p, ws, rfl, s, r2⟩ := lstOf_read T2.rl e2
              rw [strs_rls r2 e3] at s
              rw [rl_str T1.rl]
              exact ⟨a, p, ys, rfl, rfl, .inl s, c, q _ P2 H2 FE2 E_ S2 ⟨.str, fun b z => z.elim⟩ ((t1.less'.trans t2).less fun b z => z.elim .inl False.elim)⟩
            · simp only [e2, e3, Option.bind, if_neg c, R.of] at q
    | _ => simp only at q
def tO (K : PySem.W.Frag) (RX : RXR) (W : WX) (f : Ev → R (Option Int)) : TO := fun σ H Q => ∃ P ρ FE, Stt K P H ρ σ FE ∧ match f ρ with
  | .ok i ρ' => ∀ P' H' FE', Stt K P' H' ρ' σ FE' → Tr P H (U FE) P' H' (U FE') → Q i H'
  | .exc x ρ' => ∀ cls dx P' H' FE', Stt K P' H' ρ' σ FE' → Tr P H (U FE) P' H' (U FE') → RX x P' H' cls dx → W cls dx σ H'
  | .stk => False
abbrev DO (X : Cx) (RX : RXR) (W : WX) (e : Option Expr) (f : Ev → R (Option Int)) : Prop := PO X e (tO X.K RX W f)
def fO (f : Ev → R D) : Ev → R (Option Int) := fun ρ => (f ρ).bind fun d ρ1 => match d with
  | .int i => .ok (some i) ρ1
  | _ => .stk
theorem do_none : DO X RX W none (fun ρ => .ok none ρ) := ⟨fun pins s σ H Q I ⟨P, ρ, FE, S, q⟩ => po_none.run pins s σ H Q I (q P H FE S Tr.refl)⟩
theorem do_some {e : Expr} {f : Ev → R D} (h : DE X RX W e f) : DO X RX W (some e) (fO f) := by
  refine ⟨fun pins s σ H Q I q => (po_some h).run pins s σ H Q I ?_⟩
  obtain ⟨P, ρ, FE, S, q⟩ := q
  refine ⟨P, ρ, FE, S, ?_⟩
  unfold fO at q
  cases e : f ρ with
  | exc x ρ1 => simp only [e, R.bind] at q; exact q
  | stk => simp only [e, R.bind] at q
  | ok d ρ1 =>
    simp only [e, R.bind] at q
    intro v P1 H1 FE1 F1 S1 T1 t1
    cases d with
    | int i => exact ⟨_, rl_int T1.rl, q P1 H1 FE1 S1 t1.less'⟩
    | _ => simp only at q
def cutD (xs : List D) (lo hi : Option Int) : List D := (xs.drop (HT.sIx xs.length 0 lo)).take (HT.sIx xs.length xs.length hi - HT.sIx xs.length 0 lo)
def gSl (d : D) (lo hi : Option Int) : Option D := match d with
  | .lst _ xs => if isImms xs = true then some (.lst true (cutD xs lo hi)) else none
  | .str z => if z.length ≤ sizeLine then some (.str (cutS z lo hi)) else none
  | .tup xs => if isImms xs = true ∧ ¬ (HT.sIx xs.length 0 lo = 0 ∧ HT.sIx xs.length xs.length hi = xs.length) then some (.tup (cutD xs lo hi)) else none
  | _ => none
def fSl (f : Ev → R D) (l u : Ev → R (Option Int)) : Ev → R D := fun ρ => (f ρ).bind fun d ρ1 => (l ρ1).bind fun lo ρ2 => (u ρ2).bind fun hi ρ3 => R.of (gSl d lo hi) ρ3
abbrev rSlU (K : PySem.W.Frag) : V → Option Int → Option Int → Hp → VK → Prop := fun x lo hi H Q => rSlL K x lo hi H Q ∨ rSlS x lo hi H Q ∨ rSlT K x lo hi H Q
omit [TabC] in
theorem sl_U : SlR X (rSlU X.K) := sl_list.or (sl_str.or sl_tup)
omit [TabC] in
theorem isImms_drop : ∀ {xs : List D} (n : Nat), isImms xs = true → isImms (xs.drop n) = true
  | xs, 0, h => by simpa using h
  | [], _ + 1, h => by simpa using h
  | _ :: _, n + 1, h => by
    simp only [isImms, Bool.and_eq_true] at h
    exact isImms_drop n h.2
omit [TabC] in
theorem isImms_take : ∀ {xs : List D} (n : Nat), isImms xs = true → isImms (xs.take n) = true
  | _, 0, h => by simp [isImms]
  | [], _ + 1, h => by simpa using h
  | _ :: _, n + 1, h => by
    simp only [isImms, Bool.and_eq_true, List.take_succ_cons] at h ⊢
    exact ⟨h.1, isImms_take n h.2⟩
omit [TabC] in
theorem rls_drop {K : PySem.W.Frag} {P : AS} {H : Hp} : ∀ {ds : List D} {vs : List V} (n : Nat), Rls false K P H ds vs E_ → Rls false K P H (ds.drop n) (vs.drop n) E_
  | _, _, 0, h => by simpa using h
  | _, _, _ + 1, .nil => by simpa using Rls.nil
  | _, _, n + 1, .cons r rs s1 s2 dj => rls_drop n (rls_view rs)
omit [TabC] in
theorem rls_take {K : PySem.W.Frag} {P : AS} {H : Hp} : ∀ {ds : List D} {vs : List V} (n : Nat), Rls false K P H ds vs E_ → Rls false K P H (ds.take n) (vs.take n) E_
  | _, _, 0, h => by simpa using Rls.nil
  | _, _, _ + 1, .nil => by simpa using Rls.nil
  | _, _, n + 1, .cons r rs s1 s2 dj => .cons (F1 := E_) (F2 := E_) (rl_view r) (rls_take n (rls_view rs)) (fun _ z => z) (fun _ z => z) fun _ z => z.elim
theorem cut_rls {K : PySem.W.Frag} {P : AS} {H : Hp} {xs : List D} {vs : List V} {lo hi : Option Int} (rs : Rls false K P H xs vs E_) : Rls false K P H (cutD xs lo hi) (cutV vs lo hi) E_ := by
  unfold cutD cutV
  rw [← rls_len rs]
  exact rls_take _ (rls_drop _ rs)
theorem de_slice {e : Expr} {lo hi : Option Expr} {p2 : Pos} {f : Ev → R D} {l u : Ev → R (Option Int)} (h : DE X RX W e f) (hl : DO X RX W lo l) (hu : DO X RX W hi u) : DE X RX W (.Subscript e (.Slice lo hi none p2) pos) (fSl f l u) := by
  refine pe_imp (pe_slice sl_U h hl hu) fun σ H Q q => ?_
  obtain ⟨P, ρ, FE, S, q⟩ := q
  refine ⟨P, ρ, FE, S, ?_⟩
  unfold fSl at q
  cases e : f ρ with
  | exc x ρ1 => simp only [e, R.bind] at q; exact q
  | stk => simp only [e, R.bind] at q
  | ok d ρ1 =>
    simp only [e, R.bind] at q
    intro v P1 H1 FE1 F1 S1 T1 t1
    refine ⟨P1, ρ1, FE1, S1, ?_⟩
    cases e1 : l ρ1 with
    | exc x ρ2 => simp only [e1] at q; exact fun cls dx P2 H2 FE2 S2 t2 r => q cls dx P2 H2 FE2 S2 (t1.less'.trans t2) r
    | stk => simp only [e1] at q
    | ok lo ρ2 =>
      simp only [e1] at q
      intro P2 H2 FE2 S2 t2
      have T2 := (T1.step (F := E_) S1 (t2.less fun b z => z.elim id False.elim)).1
      refine ⟨P2, ρ2, FE2, S2, ?_⟩
      cases e2 : u ρ2 with
      | exc x ρ3 => simp only [e2] at q; exact fun cls dx P3 H3 FE3 S3 t3 r => q cls dx P3 H3 FE3 S3 ((t1.less'.trans t2).trans t3) r
      | stk => simp only [e2] at q
      | ok hi ρ3 =>
        simp only [e2] at q
        intro P3 H3 FE3 S3 t3
        have T3 := (T2.step (F := E_) S2 (t3.less fun b z => z.elim id False.elim)).1
        have tt := (t1.less'.trans t2).trans t3
        have rv := rl_view (F' := E_) T3.rl
        cases e3 : gSl d lo hi with
        | none => simp only [e3, R.of] at q
        | some x =>
          simp only [e3, R.of] at q
          have fin : ∀ u P' H' F, New P3 H3 P' H' F → Rl true X.K P' H' x u F → Q u H' := fun u P' H' F n r => q u P' H' FE3 F (n.stt S3) (n.tmp S3 r) (tt.trans n.tr)
          unfold gSl at e3
          split at e3
          · split at e3
            · rename_i i
              cases e3
              obtain ⟨p, vs, rfl, e, rs⟩ := lst_read rv
              refine .inl ⟨p, vs, rfl, .inl (.inl e), fun a ha => ?_⟩
              obtain ⟨n, r⟩ := new_lst ha S3.pin (isImms_take _ (isImms_drop _ i)) (cut_rls rs)
              exact fin _ _ _ _ n r
            · cases e3
          · split at e3
            · rename_i c
              cases e3
              rw [rl_str T3.rl]
              exact .inr (.inl ⟨_, rfl, c, fin _ P3 H3 E_ New.refl .str⟩)
            · cases e3
          · split at e3
            · rename_i c
              cases e3
              obtain ⟨p, vs, rfl, e, _, rs⟩ := tup_read rv
              refine .inr (.inr ⟨p, vs, rfl, .inl (.inl e), by rw [← rls_len rs]; exact c.2, fun a ha => ?_⟩)
              obtain ⟨n, r⟩ := new_tup ha (isImms_take _ (isImms_drop _ c.1)) (cut_rls rs)
              exact fin _ _ _ _ n r
            · cases e3
          · cases e3
end
end Hap
namespace Hap
open PySem PySem.Spec PyProof.Rows L2
variable [TabC]
def fK (d : D) : Ev → R D := fun ρ => .ok d ρ
def vK (d : D) : Ev → Option D := fun _ => some d
def fO0 : Ev → R (Option Int) := fun ρ => .ok none ρ
def fYes : Ev → R Bool := fun ρ => .ok true ρ
def vLst (f : Ev → Option (List D)) : Ev → Option D := fun ρ => (f ρ).bind fun ds => if ds.length ≤ sizeLine then some (.lst true ds) else none
def vTup (f : Ev → Option (List D)) : Ev → Option D := fun ρ => (f ρ).bind fun ds => if ds.length ≤ sizeLine then some (.tup ds) else none
/-- taken out of its slot (what is no one's own stays there, too) -/
def takeS (i : Nat) (ρ : Ev) : R D := match ρ[i]? with
  | some (some d) => .ok d (if isImm d = true then ρ else ρ.set i none)
  | _ => .stk
def fMv (i : Nat) : Ev → R D := takeS i
def fConsL (i : Nat) (g : Ev → R (List D)) : Ev → R (List D) := fun ρ => match ρ[i]? with
  | some (some _) => (g ρ).bind fun ds ρ2 => (takeS i ρ2).bind fun d ρ3 => .ok (d :: ds) ρ3
  | _ => .stk
/-- the left operand a name, looked at behind the right one -/
def fOp2L (g : D → D → Option D) (i : Nat) (k : Ev → R D) : Ev → R D := fun ρ => match ρ[i]? with
  | some (some _) => (k ρ).bind fun e ρ1 => (match ρ1[i]? with
    | some (some d) => R.of (g d e) ρ1
    | _ => .stk)
  | _ => .stk
section
variable {K : PySem.W.Frag} {P : AS} {H : Hp} {FE : FP} {ρ : Ev} {σ : L2.St}
theorem Stt.take {i : Nat} {d : D} (S : Stt K P H ρ σ FE) (e : ρ[i]? = some (some d)) (hi : isImm d = false) : Stt K P H (ρ.set i none) σ (fun j b => j ≠ i ∧ FE j b) ∧
    ∃ v, σ[i]? = some (some v) ∧ Tmp K P H (fun j b => j ≠ i ∧ FE j b) d v (FE i) := by
  obtain ⟨v, ev, r⟩ := S.rel i d e
  refine ⟨⟨S.pin, fun j b q => S.fin j b q.2, fun j k b q w => S.dj j k b q.2 w.2, fun j d' e' => ?_, by simpa using S.len, S.tab⟩, v, ev, r, fun b q => ⟨(S.fin i b q).1, (S.fin i b q).2, fun ⟨j, w⟩ => w.1 (S.dj j i b w.2 q)⟩⟩
  by_cases hj : j = i
  · subst hj
    have hl : j < ρ.length := (List.getElem?_eq_some_iff.mp e).1
    rw [List.getElem?_set_self hl] at e'
    cases e'
  · rw [List.getElem?_set_ne (Ne.symm hj)] at e'
    obtain ⟨w, e1, r1⟩ := S.rel j d' e'
    exact ⟨w, e1, rl_mono r1 (fun _ q => q) (fun _ _ e _ _ => e) fun b q => ⟨hj, q⟩⟩
/-- a slot's thing is taken -/
theorem takeS_ok {i : Nat} {d : D} {ρ1 : Ev} (S : Stt K P H ρ σ FE) (e : takeS i ρ = .ok d ρ1) : ∃ v FE' F, σ[i]? = some (some v) ∧ Stt K P H ρ1 σ FE' ∧ Tmp K P H FE' d v F ∧ (∀ b, U FE' b ∨ F b → U FE b) := by
  unfold takeS at e
  split at e
  · rename_i d' e0
    cases e
    by_cases hi : isImm d = true
    · rw [if_pos hi]
      obtain ⟨v, ev, r⟩ := S.rel i d e0
      exact ⟨v, FE, E_, ev, S, ⟨rl_imm r hi, fun b z => z.elim⟩, fun b z => z.elim id False.elim⟩
    · rw [if_neg hi]
      obtain ⟨S2, v, ev, T⟩ := S.take e0 (by simpa using hi)
      exact ⟨v, _, FE i, ev, S2, T, fun b z => z.elim (fun ⟨j, w⟩ => ⟨j, w.2⟩) fun w => ⟨i, w⟩⟩
  · cases e
end
section
variable {X : Cx} {RX : RXR} {W : WX} {e : Expr} {es : List Expr} {pos : Pos}
theorem de_k {v : V} {d : D} (h : PE X e (tC v)) (r : ∀ P H, Rl true X.K P H d v E_) : DE X RX W e (fK d) := de_con h r
theorem dv_k {v : V} {d : D} (h : PE X e (tC v)) (r : ∀ P H, Rl true X.K P H d v E_) : DV X e (vK d) := dv_con h r
theorem do_0 : DO X RX W none fO0 := do_none
theorem dts_0 : PTs X [] (tT X.K RX W fYes) := dts_nil
theorem dv_lst {f : Ev → Option (List D)} (h : DAV X es f) : DV X (.List es pos) (vLst f) := by
  refine pe_imp (pe_lst h) fun σ H Q q => ?_
  obtain ⟨P, ρ, FE, S, q⟩ := q
  refine ⟨P, ρ, FE, S, ?_⟩
  unfold vLst at q
  cases e : f ρ with
  | none => simp only [e, Option.bind] at q
  | some ds =>
    simp only [e, Option.bind] at q
    intro vs P1 H1 n1 r1
    by_cases c : ds.length ≤ sizeLine
    · simp only [if_pos c] at q
      refine ⟨by rw [← rls_len r1]; exact c, fun a ha => ?_⟩
      have n : New P1 H1 P1 (upd H1 a (.lst vs)) (fun b => b = a) := New.lst ha (n1.stt S).pin
      exact q (.ref a) P1 _ (n1.trans_ n.less_) (.lstO (F' := E_) upd_same (fun z => by cases z) (fun b z => z.elim) (rls_mono r1 (fun _ q => q) (fun b o e _ => n.same b o e) fun _ q => q))
    · simp only [if_neg c] at q
theorem dv_tup {f : Ev → Option (List D)} {x1} (h : DAV X es f) : DV X (.Tuple es x1 pos) (vTup f) := by
  refine pe_imp (pe_tup h) fun σ H Q q => ?_
  obtain ⟨P, ρ, FE, S, q⟩ := q
  refine ⟨P, ρ, FE, S, ?_⟩
  unfold vTup at q
  cases e : f ρ with
  | none => simp only [e, Option.bind] at q
  | some ds =>
    simp only [e, Option.bind] at q
    intro vs P1 H1 n1 r1
    by_cases c : ds.length ≤ sizeLine
    · simp only [if_pos c] at q
      refine ⟨by rw [← rls_len r1]; exact c, fun a ha => ?_⟩
      have n : New P1 H1 (fun b => P1 b ∨ b = a) (upd H1 a (.tup vs)) E_ := New.tup ha
      exact q (.ref a) _ _ (n1.trans_ n) (.tup upd_same (.inr rfl) (rls_mono r1 (fun _ q => .inl q) (fun b o e _ => n.same b o e) fun _ q => q))
    · simp only [if_neg c] at q
theorem de_mv {i : Nat} (h : PE X e (tVar i)) : DE X RX W e (fMv i) := by
  refine pe_imp h fun σ H Q q => ?_
  obtain ⟨P, ρ, FE, S, q⟩ := q
  unfold fMv at q
  cases e : takeS i ρ with
  | exc x ρ1 => simp only [takeS] at e; split at e <;> cases e
  | stk => simp only [e] at q
  | ok d ρ1 =>
    simp only [e] at q
    obtain ⟨v, FE', F, ev, S', T, hU⟩ := takeS_ok S e
    exact ⟨v, ev, q v P H FE' F S' T (Tr.refl.less hU)⟩
theorem da_consL {i : Nat} {g : Ev → R (List D)} (h : PE X e (tVar i)) (t : DA X RX W es g) (hs : starEach (e :: es) X.env = (false, eval e X.env) :: starEach es X.env := by rfl) : DA X RX W (e :: es) (fConsL i g) := by
  refine pa_imp (pa_cons h t hs) fun σ H Q q => ?_
  obtain ⟨P, ρ, FE, S, q⟩ := q
  unfold fConsL at q
  cases e0 : ρ[i]? with
  | none => simp only [e0] at q
  | some o =>
    cases o with
    | none => simp only [e0] at q
    | some d0 =>
      simp only [e0] at q
      obtain ⟨v, ev, _⟩ := S.rel i d0 e0
      refine ⟨v, ev, P, ρ, FE, S, ?_⟩
      cases e1 : g ρ with
      | exc x ρ1 => simp only [e1, R.bind] at q; exact q
      | stk => simp only [e1, R.bind] at q
      | ok ds ρ2 =>
        simp only [e1, R.bind] at q
        intro vs P2 H2 FE2 F2 S2 T2 t2
        cases e2 : takeS i ρ2 with
        | exc x ρ1 => simp only [takeS] at e2; split at e2 <;> cases e2
        | stk => simp only [e2] at q
        | ok d ρ3 =>
          simp only [e2] at q
          obtain ⟨v', FE', F, ev', S', T, hU⟩ := takeS_ok S2 e2
          rw [ev] at ev'; cases ev'
          refine q (v :: vs) P2 H2 FE' (fun b => F b ∨ F2 b) S' ⟨.cons T.rl T2.rl (fun b z => .inl z) (fun b z => .inr z) (fun b z w => (T2.own b w).2.2 (hU b (.inr z))), fun b z => z.elim (T.own b) fun z => ⟨(T2.own b z).1, (T2.own b z).2.1, fun w => (T2.own b z).2.2 (hU b (.inl w))⟩⟩ (t2.less fun b z => ?_)
          rcases z with z | z | z
          · exact .inl (hU b (.inl z))
          · exact .inl (hU b (.inr z))
          · exact .inr z
theorem e_op2L {K : PySem.W.Frag} {r : R2} {g : D → D → Option D} {i : Nat} {k : Ev → R D} (hv : VOp2 K r g) {σ : L2.St} {H : Hp} {Q : VK} (h : tE K RX W (fOp2L g i k) σ H Q) : tVar i σ H (fun v H1 => tE K RX W k σ H1 fun w H2 => r v w H2 Q) := by
  obtain ⟨P, ρ, FE, S, h⟩ := h
  unfold fOp2L at h
  cases e0 : ρ[i]? with
  | none => simp only [e0] at h
  | some o =>
    cases o with
    | none => simp only [e0] at h
    | some d0 =>
      simp only [e0] at h
      obtain ⟨v, ev, _⟩ := S.rel i d0 e0
      refine ⟨v, ev, P, ρ, FE, S, ?_⟩
      cases e1 : k ρ with
      | exc x ρ1 => simp only [e1, R.bind] at h; exact h
      | stk => simp only [e1, R.bind] at h
      | ok d' ρ1 =>
        simp only [e1, R.bind] at h
        intro w P1 H1 FE1 F1 S1 T1 t1
        cases e2 : ρ1[i]? with
        | none => simp only [e2] at h
        | some o =>
          cases o with
          | none => simp only [e2] at h
          | some d =>
            simp only [e2] at h
            obtain ⟨v', ev', r⟩ := S1.rel i d e2
            rw [ev] at ev'; cases ev'
            cases e3 : g d d' with
            | none => simp only [e3, R.of] at h
            | some x =>
              simp only [e3, R.of] at h
              exact hv P1 H1 d d' v w x Q S1.pin (rl_view r) (rl_view T1.rl) e3 fun u P2 H2 F2 n r => h u P2 H2 FE1 F2 (n.stt S1) (n.tmp S1 r) (t1.less'.trans n.tr)
variable {a b : Expr}
theorem de_cmpL {op : CmpOp} {r : R2} {g : D → D → Option D} {i : Nat} {k : Ev → R D} (ho : OpR X (compareOp op) r) (hv : VOp2 X.K r g) (ha : PE X a (tVar i)) (hb : DE X RX W b k) (hm : behindInMarks op b = false) : DE X RX W (.Compare a [op] [b] pos) (fOp2L g i k) :=
  pe_imp (pe_cmpR ho ha hb hm) fun σ H Q q => e_op2L hv q
end
section
variable {X : Cx} {x : Str} {pos : Pos}
omit [TabC] in
theorem pe_globS {t : Str} (hg : Gl X x) (h : ∃ k, X.mg x = some (.str t k)) (hd : (x == ("__debug__" : Str)) = false := by decide) : PE X (.Name x pos) (tC (.str t)) := by
  obtain ⟨k, h⟩ := h
  exact pe_glob hg h ⟨k, rfl⟩ hd
omit [TabC] in
theorem pe_globI {i : Int} (hg : Gl X x) (h : ∃ k, X.mg x = some (.int i k)) (hd : (x == ("__debug__" : Str)) = false := by decide) : PE X (.Name x pos) (tC (.int i)) := by
  obtain ⟨k, h⟩ := h
  exact pe_glob hg h ⟨k, rfl⟩ hd
end
structure Cal (P : Program) (w : World) (K : PySem.W.Frag) (mg : Str → Option Value) (base : Heap) (RX : RXR) (x : Str) (k : Nat) (io : List Bool) (sem : Fn) : Prop where
  ex : ∃ f fd ps, FnOk P w K mg base (L2N.CX P w) k f fd ps (spD K RX io sem) ∧ mg x = some (.ref f) ∧ PySem.W.keepIn K (.ref f) = true ∧ Binds K fd ps []
omit [TabC] in
theorem room65 {k : Nat} {A : Around} (r : Room k A) : A.units + 65 < cLine := by have := r.un; omega
omit [TabC] in
theorem room64 {k : Nat} {A : Around} (r : Room k A) : A.units + 64 < cLine := by have := r.un; omega
omit [TabC] in
theorem room1 {k : Nat} {A : Around} (r : Room k A) : A.units + 1 < cLine := by have := r.un; omega
section
variable {X : Cx} {RX : RXR} {W : WX} {k j n : Nat} {sem : Fn} {x : Str} {p pos : Pos} {e : Expr} {es : List Expr} {fa : Ev → R (List D)}
theorem de_callC (C : Cal X.prog X.w X.K X.mg X.base RX x j (List.replicate n false) sem) (hr : Room k X.A) (hj : j ≤ k) (hg : Gl X x) (tk : L2N.Takes X W) (ha : DA X RX W (e :: es) fa) (hdb : (x == ("__debug__" : Str)) = false := by decide)
    (he : starEach (e :: es) X.env = (false, eval e X.env) :: starEach es X.env := by rfl) (hpl : (backTo pos (starEach es X.env)).any (·.1) = false := by rfl) : DE X RX W (.Call (.Name x p) (e :: es) [] pos) (fCall n sem fa) := by
  obtain ⟨f, fd, ps, F, hm, hk, hb⟩ := C.ex
  exact de_call F (hr.mono hj) hg hm hk hb tk ha hdb he hpl
theorem de_callIOC {i m : Nat} (C : Cal X.prog X.w X.K X.mg X.base RX x j (true :: List.replicate m false) sem) (hr : Room k X.A) (hj : j ≤ k) (hg : Gl X x) (tk : L2N.Takes X W) (hv : PE X e (tVar i)) (ha : DA X RX W es fa) (hdb : (x == ("__debug__" : Str)) = false := by decide)
    (he : starEach (e :: es) X.env = (false, eval e X.env) :: starEach es X.env := by rfl) (hpl : (backTo pos (starEach es X.env)).any (·.1) = false := by rfl) : DE X RX W (.Call (.Name x p) (e :: es) [] pos) (fCallIO i (m + 1) sem fa) := by
  obtain ⟨f, fd, ps, F, hm, hk, hb⟩ := C.ex
  exact de_callIO F (hr.mono hj) hg hm hk hb tk hv ha hdb he hpl
end
end Hap
namespace Hap
open PySem PySem.Spec PyProof.Rows L2
variable [TabC]
abbrev RX0 : RXR := fun _ _ _ _ _ => False
omit [TabC] in
theorem rls_ints {z : Bool} {K : PySem.W.Frag} {P : AS} {H : Hp} {F : AS} : ∀ ns : List Int, Rls z K P H (ns.map D.int) (ns.map V.int) F
  | [] => .nil
  | n :: ns => .cons (F1 := fun _ => False) (F2 := fun _ => False) .int (rls_ints ns) (fun b z => z.elim) (fun b z => z.elim) fun b z => z.elim
omit [TabC] in
theorem imms_ints : ∀ ns : List Int, isImms (ns.map D.int) = true
  | [] => rfl
  | n :: ns => by
    show (isImm (.int n) && isImms (ns.map D.int)) = true
    rw [imms_ints ns]; rfl
theorem law_sp {K : PySem.W.Frag} {RX : RXR} {sem : Fn} {a : Addr} {ns : List Int} {H : Hp} (hT : LamX.Tabs TabC.T H) (hS : SqL K H a (ns.map V.int)) (h : ∃ o, sem [.rol (ns.map D.int)] = .rt (.bl true) o) :
    spD K RX (List.replicate 1 false) sem [.ref a] H (fun v _ => v = .bl true) fun _ _ _ => False := by
  obtain ⟨o, h⟩ := h
  have hR : Rol K H (fun b => H b ≠ none) a (ns.map V.int) := by
    rcases hS with (h1 | ⟨o1, h1⟩) | h1
    · exact .inl ⟨by show H a ≠ none; rw [h1]; simp, .inl h1⟩
    · exact .inl ⟨by show H a ≠ none; rw [h1]; simp, .inr ⟨o1, h1⟩⟩
    · exact .inr h1
  refine ⟨rfl, fun b => H b ≠ none, [.rol (ns.map D.int)], fun _ => E_, ⟨fun b z => z, fun i b z => z.elim, fun i j b z => z.elim, fun i d e => ?_, rfl, hT⟩, fun i _ b z => z.elim, ?_⟩
  · match i, e with
    | 0, e =>
      cases e
      exact ⟨_, rfl, .rol hR (imms_ints ns) (rls_ints ns)⟩
    | i + 1, e => simp at e
  · simp only [h]
    intro v P' H' FA' F S T t
    cases T.rl
    rfl
omit [TabC] in
theorem hCX0 {P : Program} {w : World} {H : Hp} {s : Shared} {e : Value} {s' : Shared} (h : L2N.CX P w [] H s (fun _ _ _ => False) e s') : False := by
  obtain ⟨_, _, _, _, _, _, _, _, _, _, _, _, z⟩ := h
  exact z.elim
instance (priority := low) noTab : TabC := ⟨[]⟩
end Hap
namespace Hap
open PySem PySem.Spec PyProof.Rows L2
def RS.seq (r : RS) (k : Ev → RS) : RS := match r with
  | .nx ρ' => k ρ'
  | .rt d ρ' => .rt d ρ'
  | .bk ρ' => .bk ρ'
  | .ct ρ' => .ct ρ'
  | .exc x ρ' => .exc x ρ'
  | .stk => .stk
def varR (o : Option (Option D)) (i : Nat) (ρ : Ev) : R D := match o with
  | some (some d) => .ok (frz d) (ρ.set i (some (frz d)))
  | _ => .stk
def varV (o : Option (Option D)) : Option D := match o with
  | some (some d) => some d
  | _ => none
def immR (o : Option D) (ρ : Ev) : R D := match o with
  | some d => if isImm d = true then .ok d ρ else .stk
  | none => .stk
def tgR (o : Option Ev) (k : Ev → RS) : RS := match o with
  | some ρ => k ρ
  | none => .stk
def blV (o : Option D) (ρ : Ev) : R Bool := match o with
  | some (.bl b) => .ok b ρ
  | _ => .stk
def takeR (o : Option (Option D)) (i : Nat) (ρ : Ev) : R D := match o with
  | some (some d) => .ok d (if isImm d = true then ρ else ρ.set i none)
  | _ => .stk
def rfOf (io : List Bool) (r : RS) : RF := match r with
  | .nx ρ => .rt .non (outsOf io ρ)
  | .rt d ρ => .rt d (outsOf io ρ)
  | .exc x ρ => .exc x (outsOf io ρ)
  | _ => .stk
section
variable {α β : Type} {ρ ρ' : Ev} {d : D} {x : DX}
theorem semOf_ap {io n g} {ds : List D} : semOf io n g ds = rfOf io (g (ds.map some ++ List.replicate (n - ds.length) none)) := by
  unfold semOf rfOf; rfl
@[simp] theorem rfOf_nx {io} : rfOf io (.nx ρ) = .rt .non (outsOf io ρ) := (rfl)
@[simp] theorem rfOf_rt {io} : rfOf io (.rt d ρ) = .rt d (outsOf io ρ) := (rfl)
@[simp] theorem rfOf_exc {io} : rfOf io (.exc x ρ) = .exc x (outsOf io ρ) := (rfl)
@[simp] theorem outsOf_nil {ρ} : outsOf [] ρ = [] := (rfl)
@[simp] theorem outsOf_t {bs o os} : outsOf (true :: bs) (o :: os) = o :: outsOf bs os := (rfl)
@[simp] theorem outsOf_f {bs o os} : outsOf (false :: bs) (o :: os) = none :: outsOf bs os := (rfl)
@[simp] theorem bind_ok {a : α} {f : α → Ev → R β} : (R.ok a ρ).bind f = f a ρ := (rfl)
@[simp] theorem bind_exc {f : α → Ev → R β} : (R.exc x ρ : R α).bind f = .exc x ρ := (rfl)
@[simp] theorem bind_stk {f : α → Ev → R β} : (R.stk : R α).bind f = .stk := (rfl)
@[simp] theorem of_some {a : α} : R.of (some a) ρ = .ok a ρ := (rfl)
@[simp] theorem rsof_ok {a : α} {k : α → Ev → RS} : RS.of (.ok a ρ) k = k a ρ := (rfl)
@[simp] theorem rsof_exc {k : α → Ev → RS} : RS.of (.exc x ρ) k = .exc x ρ := (rfl)
@[simp] theorem seq_nx {k : Ev → RS} : RS.seq (.nx ρ) k = k ρ := (rfl)
@[simp] theorem seq_rt {k : Ev → RS} : RS.seq (.rt d ρ) k = .rt d ρ := (rfl)
@[simp] theorem seq_exc {k : Ev → RS} : RS.seq (.exc x ρ) k = .exc x ρ := (rfl)
@[simp] theorem seq_bk {k : Ev → RS} : RS.seq (.bk ρ) k = .bk ρ := (rfl)
@[simp] theorem seq_ct {k : Ev → RS} : RS.seq (.ct ρ) k = .ct ρ := (rfl)
@[simp] theorem varR_s {i : Nat} : varR (some (some d)) i ρ = .ok (frz d) (ρ.set i (some (frz d))) := (rfl)
@[simp] theorem varV_s : varV (some (some d)) = some d := (rfl)
@[simp] theorem immR_s : immR (some d) ρ = if isImm d = true then .ok d ρ else .stk := (rfl)
@[simp] theorem tgR_s {k : Ev → RS} : tgR (some ρ) k = k ρ := (rfl)
@[simp] theorem blV_s {b : Bool} : blV (some (.bl b)) ρ = .ok b ρ := (rfl)
@[simp] theorem takeR_s {i : Nat} : takeR (some (some d)) i ρ = .ok d (if isImm d = true then ρ else ρ.set i none) := (rfl)
@[simp] theorem asB_s {b : Bool} : asB (.bl b) ρ = .ok b ρ := (rfl)
@[simp] theorem callR_rt {o : Ev} {u : Ev → Ev} : callR (.rt d o) ρ u = .ok d (u o) := (rfl)
@[simp] theorem callR_exc {o : Ev} {u : Ev → Ev} : callR (.exc x o) ρ u = .exc x (u o) := (rfl)
@[simp] theorem hd0_c {o : Option D} {os : Ev} : hd0 (o :: os) = o := (rfl)
@[simp] theorem ap_next : fNext ρ = .nx ρ := (rfl)
@[simp] theorem ap_seq {g k : Ev → RS} : fSeq g k ρ = RS.seq (g ρ) k := (rfl)
@[simp] theorem ap_ret {f : Ev → R D} : fRet f ρ = RS.of (f ρ) .rt := (rfl)
@[simp] theorem ap_drop {f : Ev → R D} : fDrop f ρ = RS.of (f ρ) fun _ ρ' => .nx ρ' := (rfl)
@[simp] theorem ap_if {c : Ev → R Bool} {g k : Ev → RS} : fIf c g k ρ = RS.of (c ρ) fun b ρ' => if b = true then g ρ' else k ρ' := (rfl)
@[simp] theorem ap_asg {f : Ev → R D} {t} : fAsg f t ρ = RS.of (f ρ) fun d ρ' => tgR (t d ρ') .nx := by
  unfold fAsg tgR; rfl
@[simp] theorem ap_gN {i : Nat} : gN i d ρ = some (ρ.set i (some d)) := (rfl)
@[simp] theorem ap_gsN : gsN [] ρ = some ρ := (rfl)
@[simp] theorem ap_gsC {t u} {ds : List D} : gsC t u (d :: ds) ρ = (t d ρ).bind (u ds) := by
  unfold gsC; dsimp only; cases t d ρ <;> rfl
@[simp] theorem ap_gT {n u} {ds : List D} : gT n u (.tup ds) ρ = if ds.length = n then u ds ρ else none := (rfl)
@[simp] theorem ap_for {f t g} : fFor f t g ρ = RS.of (f ρ) (loopS (stepS t g)) := (rfl)
theorem ap_step {t g} : stepS t g d ρ = tgR (t d ρ) g := by
  unfold stepS tgR; rfl
@[simp] theorem ap_it {g : D → Option (List D)} {f : Ev → R D} : fIt g f ρ = (f ρ).bind fun d ρ' => R.of (g d) ρ' := (rfl)
@[simp] theorem ap_itN {g : List D → Option (List D)} {f : Ev → R (List D)} : fItN g f ρ = (f ρ).bind fun d ρ' => R.of (g d) ρ' := (rfl)
@[simp] theorem ap_var {i : Nat} : fVar i ρ = varR ρ[i]? i ρ := by unfold fVar varR; rfl
@[simp] theorem ap_vvar {i : Nat} : vVar i ρ = varV ρ[i]? := by unfold vVar varV; rfl
@[simp] theorem ap_I {f : Ev → Option D} : fI f ρ = immR (f ρ) ρ := by unfold fI immR; rfl
@[simp] theorem ap_nil : fNil ρ = .ok [] ρ := (rfl)
@[simp] theorem ap_cons {f g} : fCons f g ρ = (f ρ).bind fun d ρ1 => (g ρ1).bind fun ds ρ2 => .ok (d :: ds) ρ2 := (rfl)
@[simp] theorem ap_vnil : vNil ρ = some [] := (rfl)
@[simp] theorem ap_vcons {f g} : vCons f g ρ = (f ρ).bind fun d => (g ρ).bind fun ds => some (d :: ds) := (rfl)
@[simp] theorem ap_op1 {g f} : fOp1 g f ρ = (f ρ).bind fun d ρ' => R.of (g d) ρ' := (rfl)
@[simp] theorem ap_op2 {g f h} : fOp2 g f h ρ = (f ρ).bind fun d ρ1 => (h ρ1).bind fun e ρ2 => R.of (g d e) ρ2 := (rfl)
@[simp] theorem ap_op2V {g f h} : fOp2V g f h ρ = (f ρ).bind fun d ρ1 => R.of ((h ρ1).bind (g d)) ρ1 := (rfl)
@[simp] theorem ap_opN {g f} : fOpN g f ρ = (f ρ).bind fun ds ρ' => R.of (g ds) ρ' := (rfl)
@[simp] theorem ap_v1 {g f} : vOp1 g f ρ = (f ρ).bind g := (rfl)
@[simp] theorem ap_v2 {g f h} : vOp2 g f h ρ = (f ρ).bind fun d => (h ρ).bind (g d) := (rfl)
@[simp] theorem ap_vN {g f} : vOpN g f ρ = (f ρ).bind g := (rfl)
@[simp] theorem ap_k : fK d ρ = .ok d ρ := (rfl)
@[simp] theorem ap_vk : vK d ρ = some d := (rfl)
@[simp] theorem ap_o0 : fO0 ρ = .ok none ρ := (rfl)
@[simp] theorem ap_yes : fYes ρ = .ok true ρ := (rfl)
@[simp] theorem ap_vlst {f} : vLst f ρ = (f ρ).bind fun ds => if ds.length ≤ sizeLine then some (.lst true ds) else none := (rfl)
@[simp] theorem ap_vtup {f} : vTup f ρ = (f ρ).bind fun ds => if ds.length ≤ sizeLine then some (.tup ds) else none := (rfl)
@[simp] theorem ap_lst {f} : fLst f ρ = (f ρ).bind fun ds ρ1 => if ds.length ≤ sizeLine then .ok (.lst true ds) ρ1 else .stk := (rfl)
@[simp] theorem ap_tup {f} : fTup f ρ = (f ρ).bind fun ds ρ1 => if ds.length ≤ sizeLine then .ok (.tup ds) ρ1 else .stk := (rfl)
@[simp] theorem ap_takeS {i : Nat} : takeS i ρ = takeR ρ[i]? i ρ := by unfold takeS takeR; rfl
@[simp] theorem ap_mv {i : Nat} : fMv i ρ = takeR ρ[i]? i ρ := ap_takeS
def isS {β : Type} (o : Option (Option D)) (k : D → R β) : R β := match o with
  | some (some d) => k d
  | _ => .stk
@[simp] theorem isS_s {k : D → R β} : isS (some (some d)) k = k d := (rfl)
@[simp] theorem ap_consL {i : Nat} {g} : fConsL i g ρ = isS ρ[i]? fun _ => (g ρ).bind fun ds ρ2 => (takeS i ρ2).bind fun d ρ3 => .ok (d :: ds) ρ3 := by
  unfold fConsL isS; rfl
@[simp] theorem ap_op2L {i : Nat} {g k} : fOp2L g i k ρ = isS ρ[i]? fun _ => (k ρ).bind fun e ρ1 => isS ρ1[i]? fun d => R.of (g d e) ρ1 := by
  unfold fOp2L isS; rfl
@[simp] theorem ap_ixE {i : Nat} {k} : fIxE i k ρ = isS ρ[i]? fun _ => (k ρ).bind fun e ρ1 => isS ρ1[i]? fun d => R.of (gIxI d e) ρ1 := by
  unfold fIxE isS; rfl
@[simp] theorem ap_tb {f} : fTb f ρ = (f ρ).bind asB := (rfl)
@[simp] theorem ap_tv {f} : fTv f ρ = blV (f ρ) ρ := by unfold fTv blV; rfl
@[simp] theorem ap_and {f g : Ev → R Bool} : fAnd f g ρ = (f ρ).bind fun b ρ1 => if b = true then g ρ1 else .ok false ρ1 := (rfl)
@[simp] theorem ap_or {f g : Ev → R Bool} : fOr f g ρ = (f ρ).bind fun b ρ1 => if b = true then .ok true ρ1 else g ρ1 := (rfl)
@[simp] theorem ap_not {f : Ev → R Bool} : fNot f ρ = (f ρ).bind fun b ρ1 => .ok (!b) ρ1 := (rfl)
@[simp] theorem ap_andD {f g : Ev → R D} : fAndD f g ρ = (f ρ).bind fun d ρ1 => (asB d ρ1).bind fun b ρ1 => if b = true then g ρ1 else .ok (.bl false) ρ1 := by
  unfold fAndD asB; cases f ρ with
  | ok d ρ1 => cases d <;> rfl
  | exc => rfl
  | stk => rfl
@[simp] theorem ap_orD {f g : Ev → R D} : fOrD f g ρ = (f ρ).bind fun d ρ1 => (asB d ρ1).bind fun b ρ1 => if b = true then .ok (.bl true) ρ1 else g ρ1 := by
  unfold fOrD asB; cases f ρ with
  | ok d ρ1 => cases d <;> rfl
  | exc => rfl
  | stk => rfl
@[simp] theorem ap_notD {f : Ev → R D} : fNotD f ρ = (f ρ).bind fun d ρ1 => (asB d ρ1).bind fun b ρ1 => .ok (.bl (!b)) ρ1 := by
  unfold fNotD asB; cases f ρ with
  | ok d ρ1 => cases d <;> rfl
  | exc => rfl
  | stk => rfl
@[simp] theorem ap_ifE {c f g} : fIfE c f g ρ = (c ρ).bind fun b ρ1 => if b = true then f ρ1 else g ρ1 := (rfl)
def chR (o : Option D) (k : Bool → R D) : R D := match o with
  | some (.bl b) => k b
  | _ => .stk
@[simp] theorem chR_s {b : Bool} {k} : chR (some (.bl b)) k = k b := (rfl)
@[simp] theorem ap_chain {g g' : D → D → Option D} {fa fb fc : Ev → R D} : fChain g g' fa fb fc ρ = (fa ρ).bind fun a ρ1 => (fb ρ1).bind fun b ρ2 => chR (g a b) fun k => if k = true then (fc ρ2).bind fun c ρ3 => R.of (g' b c) ρ3 else .ok (.bl false) ρ2 := by
  unfold fChain chR; rfl
@[simp] theorem ap_call {n sem fa} : fCall n sem fa ρ = (fa ρ).bind fun ds ρ1 => if ds.length = n then callR (sem (frzs ds)) ρ1 fun _ => ρ1 else .stk := (rfl)
@[simp] theorem ap_callIO {j n sem fa} : fCallIO j n sem fa ρ = isS ρ[j]? fun _ => (fa ρ).bind fun ds ρ1 => isS ρ1[j]? fun d0 => if ds.length + 1 = n then callR (sem (d0 :: frzs ds)) ρ1 fun outs => ρ1.set j (hd0 outs) else .stk := by
  unfold fCallIO isS; rfl
@[simp] theorem ap_meth {ty g fo fa} : fMeth ty g fo fa ρ = (fo ρ).bind fun d ρ1 => if ty d = true then (fa ρ1).bind fun ds ρ2 => R.of (g d ds) ρ2 else .stk := (rfl)
@[simp] theorem ap_sl {f l u} : fSl f l u ρ = (f ρ).bind fun d ρ1 => (l ρ1).bind fun lo ρ2 => (u ρ2).bind fun hi ρ3 => R.of (gSl d lo hi) ρ3 := (rfl)
def intO (d : D) (ρ : Ev) : R (Option Int) := match d with
  | .int i => .ok (some i) ρ
  | _ => .stk
@[simp] theorem intO_s {i : Int} : intO (.int i) ρ = .ok (some i) ρ := (rfl)
@[simp] theorem ap_O {f} : fO f ρ = (f ρ).bind intO := by unfold fO intO; rfl
def appS (o : Option (Option D)) (i : Nat) (d : D) (ρ : Ev) : RS := match o with
  | some (some (.lst true xs)) => if xs.length < sizeLine then .nx (ρ.set i (some (.lst true (xs ++ [d])))) else .stk
  | _ => .stk
@[simp] theorem appS_s {i : Nat} {xs : List D} : appS (some (some (.lst true xs))) i d ρ = if xs.length < sizeLine then .nx (ρ.set i (some (.lst true (xs ++ [d])))) else .stk := (rfl)
def isLs (o : Option (Option D)) (k : RS) : RS := match o with
  | some (some (.lst _ _)) => k
  | _ => .stk
@[simp] theorem isLs_s {b : Bool} {xs : List D} {k : RS} : isLs (some (some (.lst b xs))) k = k := (rfl)
def one1 (ds : List D) (k : D → RS) : RS := match ds with
  | [d] => k d
  | _ => .stk
@[simp] theorem one1_s {k : D → RS} : one1 [d] k = k d := (rfl)
@[simp] theorem ap_append {i : Nat} {f} : fAppend i f ρ = isLs ρ[i]? (RS.of (f ρ) fun ds ρ1 => one1 ds fun d => appS ρ1[i]? i d ρ1) := by
  unfold fAppend isLs one1 appS; rfl
def setS (o : Option (Option D)) (i : Nat) (d e : D) (ρ : Ev) : RS := match e with
  | .int n => (match o with
    | some (some (.lst true xs)) => (match ixN xs.length n with
      | some j => .nx (ρ.set i (some (.lst true (xs.set j d))))
      | none => .stk)
    | _ => .stk)
  | _ => .stk
def isSS (o : Option (Option D)) (k : RS) : RS := match o with
  | some (some _) => k
  | _ => .stk
@[simp] theorem isSS_s {k : RS} : isSS (some (some d)) k = k := (rfl)
@[simp] theorem ap_setL {i : Nat} {f k} : fSetL i f k ρ = RS.of (f ρ) fun d ρ1 => isSS ρ1[i]? (RS.of (k ρ1) fun e ρ2 => setS ρ2[i]? i d e ρ2) := by
  unfold fSetL isSS setS; rfl
def augS (o : Option D) (i : Nat) (ρ : Ev) : RS := match o with
  | some x => .nx (ρ.set i (some x))
  | none => .stk
@[simp] theorem augS_s {i : Nat} : augS (some d) i ρ = .nx (ρ.set i (some d)) := (rfl)
def isIm (o : Option (Option D)) (k : D → RS) : RS := match o with
  | some (some d0) => if isImm d0 = true then k d0 else .stk
  | _ => .stk
@[simp] theorem isIm_s {k : D → RS} : isIm (some (some d)) k = if isImm d = true then k d else .stk := (rfl)
@[simp] theorem ap_aug {i : Nat} {g f} : fAug i g f ρ = isIm ρ[i]? fun d0 => RS.of (f ρ) fun d ρ1 => augS (g d0 d) i ρ1 := by
  unfold fAug isIm augS; rfl
end
section
variable {d : D} {ds xs : List D} {o : Bool}
@[simp] theorem frz_int {i} : frz (.int i) = .int i := (rfl)
@[simp] theorem frz_bl {i} : frz (.bl i) = .bl i := (rfl)
@[simp] theorem frz_str {i} : frz (.str i) = .str i := (rfl)
@[simp] theorem frz_non : frz .non = .non := (rfl)
@[simp] theorem frz_gv {v} : frz (.gv v) = .gv v := (rfl)
@[simp] theorem frz_lst : frz (.lst o xs) = .lst false (frzs xs) := (rfl)
@[simp] theorem frz_tup : frz (.tup xs) = .tup (frzs xs) := (rfl)
@[simp] theorem frz_rol : frz (.rol xs) = .rol (frzs xs) := (rfl)
@[simp] theorem frzs_nil : frzs [] = [] := (rfl)
@[simp] theorem frzs_cons : frzs (d :: ds) = frz d :: frzs ds := (rfl)
theorem frzs_map : ∀ ds : List D, frzs ds = ds.map frz
  | [] => rfl
  | d :: ds => by rw [frzs, frzs_map ds]; rfl
@[simp] theorem imm_int {i} : isImm (.int i) = true := (rfl)
@[simp] theorem imm_bl {i} : isImm (.bl i) = true := (rfl)
@[simp] theorem imm_str {i} : isImm (.str i) = true := (rfl)
@[simp] theorem imm_non : isImm .non = true := (rfl)
@[simp] theorem imm_lstO : isImm (.lst true xs) = false := (rfl)
@[simp] theorem imm_lstI : isImm (.lst false xs) = isImms xs := by show (!false && isImms xs) = _; simp
@[simp] theorem imm_tup : isImm (.tup xs) = isImms xs := (rfl)
@[simp] theorem imm_rol : isImm (.rol xs) = isImms xs := (rfl)
@[simp] theorem imms_nil : isImms [] = true := (rfl)
@[simp] theorem imms_cons : isImms (d :: ds) = (isImm d && isImms ds) := (rfl)
theorem imms_all : isImms ds = true ↔ ∀ d ∈ ds, isImm d = true := by
  induction ds with
  | nil => simp
  | cons d ds ih => simp [ih]
theorem imms_map {α : Type} {f : α → D} {xs : List α} (h : ∀ x ∈ xs, isImm (f x) = true) : isImms (xs.map f) = true := by
  rw [imms_all]; intro d hd; obtain ⟨x, hx, rfl⟩ := List.mem_map.mp hd; exact h x hx
theorem frzs_mapf {α : Type} {f g : α → D} {xs : List α} (h : ∀ x ∈ xs, frz (f x) = g x) : frzs (xs.map f) = xs.map g := by
  rw [frzs_map, List.map_map]; exact List.map_congr_left h
@[simp] theorem add_ii {i j} : gAdd (.int i) (.int j) = some (.int (i + j)) := (rfl)
theorem add_ss {x y} : gAdd (.str x) (.str y) = if x.length + y.length ≤ sizeLine then some (.str (x ++ y)) else none := rfl
theorem add_ll {a b xs ys} : gAdd (.lst a xs) (.lst b ys) = if (isImms xs = true ∧ isImms ys = true) ∧ xs.length + ys.length ≤ sizeLine then some (.lst true (xs ++ ys)) else none := rfl
@[simp] theorem sub_ii {i j} : gSub (.int i) (.int j) = some (.int (i - j)) := (rfl)
@[simp] theorem mul_ii {i j} : gMul (.int i) (.int j) = if CMul i j then some (.int (i * j)) else none := (rfl)
@[simp] theorem fdiv_ii {i j} : gFdiv (.int i) (.int j) = if CDivX i j then some (.int (Int.fdiv i j)) else none := (rfl)
@[simp] theorem mod_ii {i j} : gMod (.int i) (.int j) = if j ≠ 0 then some (.int (Int.fmod i j)) else none := (rfl)
@[simp] theorem pow_ii {i j} : gPow (.int i) (.int j) = if CPow i j then some (.int (i ^ j.toNat)) else none := (rfl)
@[simp] theorem shl_ii {i j} : gShl (.int i) (.int j) = if CPow i j then some (.int (i * 2 ^ j.toNat)) else none := (rfl)
@[simp] theorem shr_ii {i j : Int} : gShr (.int i) (.int j) = if 0 ≤ j then some (.int (i / 2 ^ j.toNat)) else none := (rfl)
@[simp] theorem band_ii {i j} : gBand (.int i) (.int j) = some (.int (Builtin.bitAnd i j)) := (rfl)
@[simp] theorem bor_ii {i j} : gBor (.int i) (.int j) = some (.int (Builtin.bitOr i j)) := (rfl)
@[simp] theorem neg_i {i} : gNeg (.int i) = some (.int (-i)) := (rfl)
@[simp] theorem lt_ii {i j : Int} : gLt (.int i) (.int j) = some (.bl (decide (i < j))) := (rfl)
@[simp] theorem le_ii {i j : Int} : gLe (.int i) (.int j) = some (.bl (decide (i ≤ j))) := (rfl)
@[simp] theorem gt_ii {i j : Int} : gGt (.int i) (.int j) = some (.bl (decide (j < i))) := (rfl)
@[simp] theorem ge_ii {i j : Int} : gGe (.int i) (.int j) = some (.bl (decide (j ≤ i))) := (rfl)
@[simp] theorem lt_ss {x y : Str} : gLt (.str x) (.str y) = some (.bl (decide (x.cps.toList < y.cps.toList))) := (rfl)
@[simp] theorem eq_ii {i j : Int} : gEq (.int i) (.int j) = some (.bl (decide (i = j))) := (rfl)
@[simp] theorem eq_bb {i j : Bool} : gEq (.bl i) (.bl j) = some (.bl (decide (i = j))) := (rfl)
@[simp] theorem eq_ss {i j : Str} : gEq (.str i) (.str j) = some (.bl (decide (i = j))) := (rfl)
@[simp] theorem ne_ii {i j : Int} : gNe (.int i) (.int j) = some (.bl (!decide (i = j))) := (rfl)
@[simp] theorem ne_bb {i j : Bool} : gNe (.bl i) (.bl j) = some (.bl (!decide (i = j))) := (rfl)
@[simp] theorem ne_ss {i j : Str} : gNe (.str i) (.str j) = some (.bl (!decide (i = j))) := (rfl)
@[simp] theorem len_l : gLen [.lst o xs] = some (.int xs.length) := (rfl)
@[simp] theorem len_r : gLen [.rol xs] = some (.int xs.length) := (rfl)
@[simp] theorem len_t : gLen [.tup xs] = some (.int xs.length) := (rfl)
@[simp] theorem len_s {x : Str} : gLen [.str x] = if x.length ≤ sizeLine then some (.int x.length) else none := (rfl)
@[simp] theorem abs_i {i : Int} : gAbs [.int i] = some (.int (if i < 0 then -i else i)) := (rfl)
@[simp] theorem max2_i {i j : Int} : gMax2 [.int i, .int j] = some (.int (if j > i then j else i)) := (rfl)
@[simp] theorem min2_i {i j : Int} : gMin2 [.int i, .int j] = some (.int (if j < i then j else i)) := (rfl)
@[simp] theorem items_l : itemsL (.lst o xs) = some (frzs xs) := (rfl)
@[simp] theorem items_r : itemsL (.rol xs) = some xs := (rfl)
@[simp] theorem items_t : itemsT (.tup xs) = some (frzs xs) := (rfl)
@[simp] theorem items_s {x : Str} : itemsS (.str x) = some (strD x) := (rfl)
@[simp] theorem lstOf_l : lstOf (.lst o xs) = some xs := (rfl)
@[simp] theorem any_l : gAny [.lst o xs] = (boolsD xs).map fun bs => .bl (bs.any id) := (rfl)
@[simp] theorem all_l : gAll [.lst o xs] = (boolsD xs).map fun bs => .bl (bs.all id) := (rfl)
theorem at_nat {α : Type} {xs : List α} {i : Nat} : atI xs (i : Int) = xs[i]? := by
  unfold atI ixN
  by_cases h : i < xs.length
  · rw [if_pos (by omega), if_pos (by omega)]; simp
  · rw [if_pos (by omega), if_neg (by omega), List.getElem?_eq_none (by omega)]; rfl
@[simp] theorem at_0 {α : Type} {xs : List α} : atI xs 0 = xs[0]? := at_nat (i := 0)
@[simp] theorem at_1 {α : Type} {xs : List α} : atI xs 1 = xs[1]? := at_nat (i := 1)
@[simp] theorem at_2 {α : Type} {xs : List α} : atI xs 2 = xs[2]? := at_nat (i := 2)
@[simp] theorem at_3 {α : Type} {xs : List α} : atI xs 3 = xs[3]? := at_nat (i := 3)
@[simp] theorem ix_l {i : Int} : gIx (.lst o xs) (.int i) = atI xs i := (rfl)
@[simp] theorem ix_r {i : Int} : gIx (.rol xs) (.int i) = atI xs i := (rfl)
@[simp] theorem ix_t {i : Int} : gIx (.tup xs) (.int i) = atI xs i := (rfl)
theorem ixI_of {e x : D} (h : gIx d e = some x) (i : isImm x = true) : gIxI d e = some x := by
  unfold gIxI; simp only [h, if_pos i]
end
end Hap
namespace Hap
open PySem PySem.Spec PyProof.Rows L2
theorem bitNot_eq (x : Int) : Builtin.bitNot x = -x - 1 := by
  unfold Builtin.bitNot; omega
theorem band_nn (a b : Nat) : Builtin.bitAnd (a : Int) (b : Int) = ((a &&& b : Nat) : Int) := by
  unfold Builtin.bitAnd
  rw [decide_eq_true (Int.natCast_nonneg a), decide_eq_true (Int.natCast_nonneg b)]
  rfl
theorem bor_nn (a b : Nat) : Builtin.bitOr (a : Int) (b : Int) = ((a ||| b : Nat) : Int) := by
  unfold Builtin.bitOr Builtin.bitAnd
  rw [decide_eq_false (show ¬ 0 ≤ Builtin.bitNot (a : Int) by rw [bitNot_eq]; omega), decide_eq_false (show ¬ 0 ≤ Builtin.bitNot (b : Int) by rw [bitNot_eq]; omega)]
  have e : ∀ x : Int, Builtin.bitNot (Builtin.bitNot x) = x := fun x => by rw [bitNot_eq, bitNot_eq]; omega
  simp only [e]
  rfl
theorem test_1 (a b : Nat) : ((((a >>> b) &&& 1 : Nat) : Int) = 1) ↔ a.testBit b = true := by
  have : (a.testBit b = true) ↔ (1 &&& (a >>> b)) ≠ 0 := by unfold Nat.testBit; simp
  rw [this]
  have h2 : (a >>> b) &&& 1 = (a >>> b) % 2 := Nat.and_one_is_mod _
  have h3 : 1 &&& (a >>> b) = (a >>> b) % 2 := Nat.one_and_eq_mod_two _
  rw [h2, h3]
  omega
theorem cpow_small (i : Int) (j : Nat) (h : j ≤ 1000000) (hi : i.natAbs < 2 ^ 64) : CPow i j := ⟨by omega, by omega, hi⟩
theorem rangeD_eq : ∀ (lo : Int) (n : Nat), rangeD lo n = (List.range n).map fun i => .int (lo + (i : Nat))
  | lo, 0 => rfl
  | lo, n + 1 => by
    rw [rangeD, rangeD_eq (lo + 1) n, List.range_succ_eq_map, List.map_cons, List.map_map]
    congr 1
    · simp
    · apply List.map_congr_left; intro i _; show D.int _ = D.int _; congr 1; simp; omega
theorem rangeD_0 (n : Nat) : rangeD 0 n = (List.range n).map fun i => .int ((i : Nat) : Int) := by
  rw [rangeD_eq]; apply List.map_congr_left; intro i _; simp
theorem rng1_n {n : Nat} (h : n < 2 ^ 60) : rng1 [.int (n : Int)] = some ((List.range n).map fun i => .int ((i : Nat) : Int)) := by
  unfold rng1
  dsimp only
  rw [if_pos ⟨by omega, by omega⟩, Int.toNat_natCast, rangeD_0]
theorem loop_inv {step : D → Ev → RS} (I : Nat → Ev → Prop) : ∀ (ds : List D) (k : Nat) (ρ : Ev), I k ρ → (∀ j d ρ, ds[j]? = some d → I (k + j) ρ → ∃ ρ', step d ρ = .nx ρ' ∧ I (k + j + 1) ρ') → ∃ ρ', loopS step ds ρ = .nx ρ' ∧ I (k + ds.length) ρ'
  | [], k, ρ, h, _ => ⟨ρ, rfl, h⟩
  | d :: ds, k, ρ, h, hs => by
    obtain ⟨ρ1, e, h1⟩ := hs 0 d ρ rfl h
    obtain ⟨ρ', e', h'⟩ := loop_inv I ds (k + 1) ρ1 h1 fun j d ρ hj hI => by
      have := hs (j + 1) d ρ (by simpa using hj) (by rw [show k + (j + 1) = k + 1 + j by omega]; exact hI)
      rwa [show k + (j + 1) + 1 = k + 1 + j + 1 by omega] at this
    refine ⟨ρ', ?_, ?_⟩
    · show (match step d ρ with | .nx ρ' => loopS step ds ρ' | .ct ρ' => loopS step ds ρ' | .bk ρ' => .nx ρ' | .rt d ρ' => .rt d ρ' | .exc x ρ' => .exc x ρ' | .stk => .stk) = _
      rw [e]; exact e'
    · rw [List.length_cons, show k + (ds.length + 1) = k + 1 + ds.length by omega]; exact h'
/-- a loop by an invariant over how many turns were made -/
theorem loop0 {step : D → Ev → RS} {ds : List D} {ρ : Ev} (I : Nat → Ev → Prop) (h : I 0 ρ) (hs : ∀ j d ρ, ds[j]? = some d → I j ρ → ∃ ρ', step d ρ = .nx ρ' ∧ I (j + 1) ρ') : ∃ ρ', loopS step ds ρ = .nx ρ' ∧ I ds.length ρ' := by
  have := loop_inv I ds 0 ρ h (fun j d ρ hj hI => by rw [Nat.zero_add] at hI ⊢; exact hs j d ρ hj hI)
  rwa [Nat.zero_add] at this
/-- .. over a range -/
theorem loopR {step : D → Ev → RS} {n : Nat} {ρ : Ev} (I : Nat → Ev → Prop) (h : I 0 ρ) (hs : ∀ j ρ, j < n → I j ρ → ∃ ρ', step (.int (j : Int)) ρ = .nx ρ' ∧ I (j + 1) ρ') : ∃ ρ', loopS step ((List.range n).map fun i => .int ((i : Nat) : Int)) ρ = .nx ρ' ∧ I n ρ' := by
  have := loop0 (step := step) (ds := (List.range n).map fun i => .int ((i : Nat) : Int)) I h fun j d ρ hj hI => by
    rw [List.getElem?_map] at hj
    by_cases hn : j < n
    · rw [List.getElem?_range hn] at hj
      cases hj
      exact hs j ρ hn hI
    · rw [List.getElem?_eq_none (by simp; omega)] at hj; cases hj
  simpa using this
/-- .. over mapped items -/
theorem loopM {α : Type} {step : D → Ev → RS} {f : α → D} {xs : List α} {ρ : Ev} (I : Nat → Ev → Prop) (h : I 0 ρ) (hs : ∀ j x ρ, xs[j]? = some x → I j ρ → ∃ ρ', step (f x) ρ = .nx ρ' ∧ I (j + 1) ρ') : ∃ ρ', loopS step (xs.map f) ρ = .nx ρ' ∧ I xs.length ρ' := by
  have := loop0 (step := step) (ds := xs.map f) I h fun j d ρ hj hI => by
    rw [List.getElem?_map] at hj
    cases e : xs[j]? with
    | none => rw [e] at hj; cases hj
    | some x => rw [e] at hj; cases hj; exact hs j x ρ e hI
  simpa using this
/-- .. that may leave early by a return -/
def Goes (N : Ev → Prop) (T : D → Ev → Prop) (r : RS) : Prop := (∃ ρ, r = .nx ρ ∧ N ρ) ∨ ∃ d ρ, r = .rt d ρ ∧ T d ρ
theorem loopT {α : Type} {step : D → Ev → RS} {f : α → D} {T : D → Ev → Prop} (I : List α → Ev → Prop) (xs : List α) (ρ : Ev) (h : I xs ρ) (hs : ∀ x xs ρ, I (x :: xs) ρ → Goes (I xs) T (step (f x) ρ)) : Goes (I []) T (loopS step (xs.map f) ρ) := by
  induction xs generalizing ρ with
  | nil => exact .inl ⟨ρ, rfl, h⟩
  | cons x xs ih =>
    show Goes (I []) T (match step (f x) ρ with | .nx ρ' => loopS step (xs.map f) ρ' | .ct ρ' => loopS step (xs.map f) ρ' | .bk ρ' => .nx ρ' | .rt d ρ' => .rt d ρ' | .exc x ρ' => .exc x ρ' | .stk => .stk)
    rcases hs x xs ρ h with ⟨ρ1, e, h1⟩ | ⟨d, ρ1, e, h1⟩
    · rw [e]; exact ih ρ1 h1
    · rw [e]; exact .inr ⟨d, ρ1, rfl, h1⟩
theorem wipe_len : ∀ (vs : List Nat) (ρ : Ev), (wipeE ρ vs).length = ρ.length
  | [], ρ => rfl
  | v :: vs, ρ => by rw [wipeE, List.length_set, wipe_len vs]
theorem loopC_map {α : Type} {t : D → Ev → Option Ev} {c : Ev → R Bool} {f : Ev → R D} {vs : List Nat} {g : α → D} {p : α → Bool} {e : α → D} {W : Ev} : ∀ (xs : List α) (acc : List D),
    (∀ x ∈ xs, ∃ ρ1, t (g x) W = some ρ1 ∧ ∃ ρ2, c ρ1 = .ok (p x) ρ2 ∧ (p x = true → ∃ ρ3, f ρ2 = .ok (e x) ρ3 ∧ wipeE ρ3 vs = W) ∧ (p x = false → wipeE ρ2 vs = W)) →
    loopC t c f vs (xs.map g) acc W = .ok (acc ++ (xs.filter p).map e) W
  | [], acc, _ => by simp [loopC]
  | x :: xs, acc, h => by
    obtain ⟨ρ1, h1, ρ2, h2, ht, hf⟩ := h x List.mem_cons_self
    have ih := fun acc => loopC_map xs acc fun y hy => h y (List.mem_cons_of_mem _ hy)
    rw [List.map_cons, loopC, h1]
    dsimp only
    cases hp : p x with
    | true =>
      rw [hp] at h2
      obtain ⟨ρ3, h3, h4⟩ := ht hp
      rw [h2]; dsimp only; rw [h3]; dsimp only; rw [h4, ih]
      simp [hp]
    | false =>
      rw [hp] at h2
      rw [h2]; dsimp only; rw [hf hp, ih]
      simp [hp]
theorem back_wipe : ∀ (vs : List Nat) (ρ : Ev), backE ρ (wipeE ρ vs) vs = ρ := by
  have key : ∀ (vs : List Nat) (ρ ρ' : Ev), ρ'.length = ρ.length → (∀ i, i ∉ vs → ρ'[i]? = ρ[i]?) → backE ρ ρ' vs = ρ := by
    intro vs
    induction vs with
    | nil => intro ρ ρ' hl h; exact List.ext_getElem? fun i => h i (by simp)
    | cons v vs ih =>
      intro ρ ρ' hl h
      have hb : ∀ (us : List Nat) (σ : Ev), (backE ρ σ us).length = σ.length := by
        intro us; induction us with
        | nil => intro σ; rfl
        | cons u us ih => intro σ; rw [backE, List.length_set, ih]
      have hg : ∀ (us : List Nat) (σ : Ev) (i : Nat), σ.length = ρ.length → (backE ρ σ us)[i]? = if i ∈ us then ρ[i]? else σ[i]? := by
        intro us; induction us with
        | nil => intro σ i _; simp [backE]
        | cons u us ih =>
          intro σ i hσ
          rw [backE, List.getElem?_set]
          by_cases hu : u = i
          · subst hu
            simp only [List.mem_cons, true_or, if_true, ite_true]
            rw [hb, hσ]
            by_cases hlt : u < ρ.length
            · rw [if_pos hlt, List.getElem?_eq_getElem hlt]
            · rw [if_neg hlt]; exact (List.getElem?_eq_none (by omega)).symm
          · rw [if_neg hu, ih σ i hσ]
            simp only [List.mem_cons, Ne.symm hu, false_or]
      apply List.ext_getElem?
      intro i
      have e2 : (backE ρ ρ' (v :: vs))[i]? = _ := hg (v :: vs) ρ' i hl
      rw [e2]
      by_cases hm : i ∈ v :: vs
      · rw [if_pos hm]
      · rw [if_neg hm]; exact h i hm
  intro vs ρ
  refine key vs ρ _ (wipe_len vs ρ) ?_
  intro i hi
  have : ∀ (us : List Nat) (ρ : Ev), i ∉ us → (wipeE ρ us)[i]? = ρ[i]? := by
    intro us
    induction us with
    | nil => intro ρ _; rfl
    | cons u us ih =>
      intro ρ h
      rw [wipeE, List.getElem?_set_ne (by intro e; subst e; exact h List.mem_cons_self)]
      exact ih ρ fun z => h (List.mem_cons_of_mem _ z)
  exact this vs ρ hi
theorem lc_map {α : Type} {i : Ev → R (List D)} {t : D → Ev → Option Ev} {c : Ev → R Bool} {f : Ev → R D} {vs : List Nat} {g : α → D} {p : α → Bool} {e : α → D} {xs : List α} {ρ ρ1 : Ev}
    (hi : i ρ = .ok (xs.map g) ρ1) (him : immAt ρ1 vs = true) (hl : xs.length ≤ sizeLine)
    (h : ∀ x ∈ xs, ∃ ρ2, t (g x) (wipeE ρ1 vs) = some ρ2 ∧ ∃ ρ3, c ρ2 = .ok (p x) ρ3 ∧ (p x = true → ∃ ρ4, f ρ3 = .ok (e x) ρ4 ∧ wipeE ρ4 vs = wipeE ρ1 vs) ∧ (p x = false → wipeE ρ3 vs = wipeE ρ1 vs)) :
    fLc i t c f vs ρ = .ok (.lst true ((xs.filter p).map e)) ρ1 := by
  unfold fLc
  rw [hi]
  dsimp only [R.bind]
  rw [if_pos ⟨him, by simpa using hl⟩, loopC_map xs [] h]
  dsimp only
  rw [back_wipe]; rfl
/-- without a test -/
theorem lc_all {α : Type} {i : Ev → R (List D)} {t : D → Ev → Option Ev} {f : Ev → R D} {vs : List Nat} {g : α → D} {e : α → D} {xs : List α} {ρ ρ1 : Ev}
    (hi : i ρ = .ok (xs.map g) ρ1) (him : immAt ρ1 vs = true) (hl : xs.length ≤ sizeLine)
    (h : ∀ x ∈ xs, ∃ ρ2, t (g x) (wipeE ρ1 vs) = some ρ2 ∧ ∃ ρ4, f ρ2 = .ok (e x) ρ4 ∧ wipeE ρ4 vs = wipeE ρ1 vs) :
    fLc i t fYes f vs ρ = .ok (.lst true (xs.map e)) ρ1 := by
  have := lc_map (p := fun _ => true) (c := fYes) (f := f) (e := e) hi him hl fun x hx => by
    obtain ⟨ρ2, h1, ρ4, h2, h3⟩ := h x hx
    exact ⟨ρ2, h1, ρ2, rfl, fun _ => ⟨ρ4, h2, h3⟩, fun z => by cases z⟩
  rw [List.filter_eq_self.mpr (fun _ _ => rfl)] at this
  exact this
@[simp] theorem wipe_nil {ρ : Ev} : wipeE ρ [] = ρ := (rfl)
@[simp] theorem wipe_cons {ρ : Ev} {v vs} : wipeE ρ (v :: vs) = (wipeE ρ vs).set v none := (rfl)
@[simp] theorem immAt_nil {ρ : Ev} : immAt ρ [] = true := (rfl)
def immO (o : Option (Option D)) : Bool := match o with
  | some (some d) => isImm d
  | _ => true
@[simp] theorem immO_n : immO (some none) = true := (rfl)
@[simp] theorem immO_s {d : D} : immO (some (some d)) = isImm d := (rfl)
@[simp] theorem immAt_cons {ρ : Ev} {v vs} : immAt ρ (v :: vs) = (immO ρ[v]? && immAt ρ vs) := by
  unfold immAt immO; rw [List.all_cons]; try rfl
end Hap
namespace Hap
open PySem PySem.Spec PyProof.Rows L2
theorem kit_NoneType_bool : kitB "NoneType" "bool" = some false := by decide +kernel
theorem kit_NoneType_int : kitB "NoneType" "int" = some false := by decide +kernel
theorem kit_NoneType_list : kitB "NoneType" "list" = some false := by decide +kernel
theorem kit_NoneType_str : kitB "NoneType" "str" = some false := by decide +kernel
theorem kit_NoneType_tuple : kitB "NoneType" "tuple" = some false := by decide +kernel
theorem kit_bool_bool : kitB "bool" "bool" = some true := by decide +kernel
theorem kit_bool_int : kitB "bool" "int" = some true := by decide +kernel
theorem kit_bool_list : kitB "bool" "list" = some false := by decide +kernel
theorem kit_bool_str : kitB "bool" "str" = some false := by decide +kernel
theorem kit_bool_tuple : kitB "bool" "tuple" = some false := by decide +kernel
theorem kit_int_bool : kitB "int" "bool" = some false := by decide +kernel
theorem kit_int_int : kitB "int" "int" = some true := by decide +kernel
theorem kit_int_list : kitB "int" "list" = some false := by decide +kernel
theorem kit_int_str : kitB "int" "str" = some false := by decide +kernel
theorem kit_int_tuple : kitB "int" "tuple" = some false := by decide +kernel
theorem kit_list_bool : kitB "list" "bool" = some false := by decide +kernel
theorem kit_list_int : kitB "list" "int" = some false := by decide +kernel
theorem kit_list_list : kitB "list" "list" = some true := by decide +kernel
theorem kit_list_str : kitB "list" "str" = some false := by decide +kernel
theorem kit_list_tuple : kitB "list" "tuple" = some false := by decide +kernel
theorem kit_str_bool : kitB "str" "bool" = some false := by decide +kernel
theorem kit_str_int : kitB "str" "int" = some false := by decide +kernel
theorem kit_str_list : kitB "str" "list" = some false := by decide +kernel
theorem kit_str_str : kitB "str" "str" = some true := by decide +kernel
theorem kit_str_tuple : kitB "str" "tuple" = some false := by decide +kernel
theorem kit_tuple_bool : kitB "tuple" "bool" = some false := by decide +kernel
theorem kit_tuple_int : kitB "tuple" "int" = some false := by decide +kernel
theorem kit_tuple_list : kitB "tuple" "list" = some false := by decide +kernel
theorem kit_tuple_str : kitB "tuple" "str" = some false := by decide +kernel
theorem kit_tuple_tuple : kitB "tuple" "tuple" = some true := by decide +kernel
@[simp] theorem isi_non_int : gIsi [.non, .gv (.ty "int")] = some (.bl false) := by show (kitB "NoneType" "int").map D.bl = _; rw [kit_NoneType_int]; rfl
@[simp] theorem isi_bl_int {b : Bool} : gIsi [(.bl b), .gv (.ty "int")] = some (.bl true) := by show (kitB "bool" "int").map D.bl = _; rw [kit_bool_int]; rfl
@[simp] theorem isi_int_int {i : Int} : gIsi [(.int i), .gv (.ty "int")] = some (.bl true) := by show (kitB "int" "int").map D.bl = _; rw [kit_int_int]; rfl
@[simp] theorem isi_str_int {x : Str} : gIsi [(.str x), .gv (.ty "int")] = some (.bl false) := by show (kitB "str" "int").map D.bl = _; rw [kit_str_int]; rfl
@[simp] theorem isi_lst_int {o : Bool} {xs : List D} : gIsi [(.lst o xs), .gv (.ty "int")] = some (.bl false) := by show (kitB "list" "int").map D.bl = _; rw [kit_list_int]; rfl
@[simp] theorem isi_tup_int {xs : List D} : gIsi [(.tup xs), .gv (.ty "int")] = some (.bl false) := by show (kitB "tuple" "int").map D.bl = _; rw [kit_tuple_int]; rfl
@[simp] theorem isi_rol_int {xs : List D} : gIsi [(.rol xs), .gv (.ty "int")] = some (.bl false) := by show (kitB "list" "int").map D.bl = _; rw [kit_list_int]; rfl
@[simp] theorem isi_non_bool : gIsi [.non, .gv (.ty "bool")] = some (.bl false) := by show (kitB "NoneType" "bool").map D.bl = _; rw [kit_NoneType_bool]; rfl
@[simp] theorem isi_bl_bool {b : Bool} : gIsi [(.bl b), .gv (.ty "bool")] = some (.bl true) := by show (kitB "bool" "bool").map D.bl = _; rw [kit_bool_bool]; rfl
@[simp] theorem isi_int_bool {i : Int} : gIsi [(.int i), .gv (.ty "bool")] = some (.bl false) := by show (kitB "int" "bool").map D.bl = _; rw [kit_int_bool]; rfl
@[simp] theorem isi_str_bool {x : Str} : gIsi [(.str x), .gv (.ty "bool")] = some (.bl false) := by show (kitB "str" "bool").map D.bl = _; rw [kit_str_bool]; rfl
@[simp] theorem isi_lst_bool {o : Bool} {xs : List D} : gIsi [(.lst o xs), .gv (.ty "bool")] = some (.bl false) := by show (kitB "list" "bool").map D.bl = _; rw [kit_list_bool]; rfl
@[simp] theorem isi_tup_bool {xs : List D} : gIsi [(.tup xs), .gv (.ty "bool")] = some (.bl false) := by show (kitB "tuple" "bool").map D.bl = _; rw [kit_tuple_bool]; rfl
@[simp] theorem isi_rol_bool {xs : List D} : gIsi [(.rol xs), .gv (.ty "bool")] = some (.bl false) := by show (kitB "list" "bool").map D.bl = _; rw [kit_list_bool]; rfl
@[simp] theorem isi_non_str : gIsi [.non, .gv (.ty "str")] = some (.bl false) := by show (kitB "NoneType" "str").map D.bl = _; rw [kit_NoneType_str]; rfl
@[simp] theorem isi_bl_str {b : Bool} : gIsi [(.bl b), .gv (.ty "str")] = some (.bl false) := by show (kitB "bool" "str").map D.bl = _; rw [kit_bool_str]; rfl
@[simp] theorem isi_int_str {i : Int} : gIsi [(.int i), .gv (.ty "str")] = some (.bl false) := by show (kitB "int" "str").map D.bl = _; rw [kit_int_str]; rfl
@[simp] theorem isi_str_str {x : Str} : gIsi [(.str x), .gv (.ty "str")] = some (.bl true) := by show (kitB "str" "str").map D.bl = _; rw [kit_str_str]; rfl
@[simp] theorem isi_lst_str {o : Bool} {xs : List D} : gIsi [(.lst o xs), .gv (.ty "str")] = some (.bl false) := by show (kitB "list" "str").map D.bl = _; rw [kit_list_str]; rfl
@[simp] theorem isi_tup_str {xs : List D} : gIsi [(.tup xs), .gv (.ty "str")] = some (.bl false) := by show (kitB "tuple" "str").map D.bl = _; rw [kit_tuple_str]; rfl
@[simp] theorem isi_rol_str {xs : List D} : gIsi [(.rol xs), .gv (.ty "str")] = some (.bl false) := by show (kitB "list" "str").map D.bl = _; rw [kit_list_str]; rfl
@[simp] theorem isi_non_list : gIsi [.non, .gv (.ty "list")] = some (.bl false) := by show (kitB "NoneType" "list").map D.bl = _; rw [kit_NoneType_list]; rfl
@[simp] theorem isi_bl_list {b : Bool} : gIsi [(.bl b), .gv (.ty "list")] = some (.bl false) := by show (kitB "bool" "list").map D.bl = _; rw [kit_bool_list]; rfl
@[simp] theorem isi_int_list {i : Int} : gIsi [(.int i), .gv (.ty "list")] = some (.bl false) := by show (kitB "int" "list").map D.bl = _; rw [kit_int_list]; rfl
@[simp] theorem isi_str_list {x : Str} : gIsi [(.str x), .gv (.ty "list")] = some (.bl false) := by show (kitB "str" "list").map D.bl = _; rw [kit_str_list]; rfl
@[simp] theorem isi_lst_list {o : Bool} {xs : List D} : gIsi [(.lst o xs), .gv (.ty "list")] = some (.bl true) := by show (kitB "list" "list").map D.bl = _; rw [kit_list_list]; rfl
@[simp] theorem isi_tup_list {xs : List D} : gIsi [(.tup xs), .gv (.ty "list")] = some (.bl false) := by show (kitB "tuple" "list").map D.bl = _; rw [kit_tuple_list]; rfl
@[simp] theorem isi_rol_list {xs : List D} : gIsi [(.rol xs), .gv (.ty "list")] = some (.bl true) := by show (kitB "list" "list").map D.bl = _; rw [kit_list_list]; rfl
@[simp] theorem isi_non_tuple : gIsi [.non, .gv (.ty "tuple")] = some (.bl false) := by show (kitB "NoneType" "tuple").map D.bl = _; rw [kit_NoneType_tuple]; rfl
@[simp] theorem isi_bl_tuple {b : Bool} : gIsi [(.bl b), .gv (.ty "tuple")] = some (.bl false) := by show (kitB "bool" "tuple").map D.bl = _; rw [kit_bool_tuple]; rfl
@[simp] theorem isi_int_tuple {i : Int} : gIsi [(.int i), .gv (.ty "tuple")] = some (.bl false) := by show (kitB "int" "tuple").map D.bl = _; rw [kit_int_tuple]; rfl
@[simp] theorem isi_str_tuple {x : Str} : gIsi [(.str x), .gv (.ty "tuple")] = some (.bl false) := by show (kitB "str" "tuple").map D.bl = _; rw [kit_str_tuple]; rfl
@[simp] theorem isi_lst_tuple {o : Bool} {xs : List D} : gIsi [(.lst o xs), .gv (.ty "tuple")] = some (.bl false) := by show (kitB "list" "tuple").map D.bl = _; rw [kit_list_tuple]; rfl
@[simp] theorem isi_tup_tuple {xs : List D} : gIsi [(.tup xs), .gv (.ty "tuple")] = some (.bl true) := by show (kitB "tuple" "tuple").map D.bl = _; rw [kit_tuple_tuple]; rfl
@[simp] theorem isi_rol_tuple {xs : List D} : gIsi [(.rol xs), .gv (.ty "tuple")] = some (.bl false) := by show (kitB "list" "tuple").map D.bl = _; rw [kit_list_tuple]; rfl
theorem loopL {α : Type} {step : D → Ev → RS} {f : α → D} (I : List α → Ev → Prop) (xs : List α) (ρ : Ev) (h : I xs ρ) (hs : ∀ x xs ρ, I (x :: xs) ρ → ∃ ρ', step (f x) ρ = .nx ρ' ∧ I xs ρ') : ∃ ρ', loopS step (xs.map f) ρ = .nx ρ' ∧ I [] ρ' := by
  rcases loopT (T := fun _ _ => False) I xs ρ h (fun x xs ρ hI => .inl (hs x xs ρ hI)) with h | ⟨_, _, _, h⟩
  · exact h
  · exact h.elim
end Hap
namespace Hap
open PySem PySem.Spec PyProof.Rows L2
def Sh (n : Nat) (d : D) : Prop := (toPy d).canLay0 = true ∧ (toPy d).depth ≤ n
def EqD {α : Type} [DecidableEq α] (f : α → D) : Prop := ∀ x y, PyData.eqv (toPy (f x)) (toPy (f y)) = decide (x = y)
section
variable {α : Type} [DecidableEq α] {f : α → D} {n : Nat} {o o' : Bool}
theorem Sh.shaped {d : D} (h : Sh n d) (hn : n ≤ 64) : SeqAt.shaped (toPy d) = true := by
  unfold SeqAt.shaped; rw [h.1, decide_eq_true (Nat.le_trans h.2 hn)]; rfl
theorem Sh.mono {m : Nat} {d : D} (h : Sh n d) (l : n ≤ m) : Sh m d := ⟨h.1, Nat.le_trans h.2 l⟩
theorem sh_int {i} : Sh n (.int i) := ⟨by simp [toPy, PyData.canLay0], by simp [toPy, PyData.depth]⟩
theorem sh_str {x : Str} (h : ∀ c ∈ x.cps.toList, c < 0x110000) : Sh n (.str x) := ⟨by
  simp only [toPy, PyData.canLay0, PyData.strOk, Array.all_eq_true']
  intro c hc; exact decide_eq_true (h c (by simpa using hc)), by simp [toPy, PyData.depth]⟩
theorem shs {ds : List D} (h : ∀ d ∈ ds, Sh n d) : PyData.canLayAll0 (toPys ds) = true ∧ PyData.depthAll (toPys ds) ≤ n := by
  induction ds with
  | nil => simp [toPys, PyData.canLayAll0, PyData.depthAll]
  | cons d ds ih =>
    obtain ⟨h1, h2⟩ := ih fun d hd => h d (List.mem_cons_of_mem _ hd)
    obtain ⟨h3, h4⟩ := h d List.mem_cons_self
    simp only [toPys, PyData.canLayAll0, PyData.depthAll, h3, h1, Bool.and_self, true_and]
    omega
theorem sh_lst {ds : List D} (h : ∀ d ∈ ds, Sh n d) : Sh (n + 1) (.lst o ds) := by
  obtain ⟨h1, h2⟩ := shs h
  exact ⟨by simp only [toPy, PyData.canLay0, h1], by simp only [toPy, PyData.depth]; omega⟩
theorem sh_tup {ds : List D} (h : ∀ d ∈ ds, Sh n d) : Sh (n + 1) (.tup ds) := by
  obtain ⟨h1, h2⟩ := shs h
  exact ⟨by simp only [toPy, PyData.canLay0, h1], by simp only [toPy, PyData.depth]; omega⟩
theorem any_map {xs : List α} {z : α} (E : EqD f) : ((toPys (xs.map f)).any fun u => PyData.eqv u (toPy (f z))) = decide (z ∈ xs) := by
  induction xs with
  | nil => simp [toPys]
  | cons x xs ih =>
    rw [List.map_cons, toPys, List.any_cons, ih, E x z]
    by_cases h : x = z
    · simp [h]
    · have : ¬ z = x := fun e => h e.symm
      simp [h, this]
theorem in_map {xs : List α} {z : α} (E : EqD f) (hz : Sh 60 (f z)) (hx : ∀ x ∈ xs, Sh 60 (f x)) : gIn (f z) (.lst o (xs.map f)) = some (.bl (decide (z ∈ xs))) := by
  have h1 : Sh 61 (.lst o (xs.map f)) := sh_lst fun d hd => by obtain ⟨x, hx', rfl⟩ := List.mem_map.mp hd; exact hx x hx'
  have h1' := h1.shaped (by omega)
  simp only [toPy] at h1'
  unfold gIn gInB
  dsimp only
  rw [if_pos ⟨hz.shaped (by omega), h1'⟩, any_map E]; rfl
theorem nin_map {xs : List α} {z : α} (E : EqD f) (hz : Sh 60 (f z)) (hx : ∀ x ∈ xs, Sh 60 (f x)) : gNin (f z) (.lst o (xs.map f)) = some (.bl (!decide (z ∈ xs))) := by
  have h1 : Sh 61 (.lst o (xs.map f)) := sh_lst fun d hd => by obtain ⟨x, hx', rfl⟩ := List.mem_map.mp hd; exact hx x hx'
  have h1' := h1.shaped (by omega)
  simp only [toPy] at h1'
  unfold gNin gInB
  dsimp only
  rw [if_pos ⟨hz.shaped (by omega), h1'⟩, any_map E]; rfl
end
theorem boolsD_map {α : Type} (p : α → Bool) : ∀ xs : List α, boolsD (xs.map fun x => .bl (p x)) = some (xs.map p)
  | [] => rfl
  | x :: xs => by rw [List.map_cons, boolsD, boolsD_map p xs]; rfl
theorem all_map_bl {α : Type} {o : Bool} (p : α → Bool) (xs : List α) : gAll [.lst o (xs.map fun x => .bl (p x))] = some (.bl (xs.all p)) := by
  rw [all_l, boolsD_map]; simp
end Hap
namespace Hap
open PySem PySem.Spec PyProof.Rows L2
variable [TabC]
omit [TabC] in
mutual
theorem rl_frzV {z : Bool} {K : PySem.W.Frag} {P P' : AS} {H : Hp} {F F' : AS} {d : D} {v : V} (h : Rl false K P H d v F) (hP : ∀ b, H b ≠ none → P' b) : Rl z K P' H (frz d) v F' := by
  cases h with
  | non => exact .non
  | bl => exact .bl
  | int => exact .int
  | str => exact .str
  | lstO e f s r => exact .lstI e (hP _ (by rw [e]; simp)) (isImms_frzs _) (rls_frzV r hP)
  | lstI e p i r => exact .lstI e (hP _ (by rw [e]; simp)) (isImms_frzs _) (rls_frzV r hP)
  | tup e p r => exact .tup e (hP _ (by rw [e]; simp)) (rls_frzV r hP)
  | dctO e k l f s r => exact .dctI (.inl e) k l (hP _ (by rw [e]; simp)) (isImms_frzs _) (rls_frzV r hP)
  | dctI e k l p i r => exact .dctI e k l (hP _ (by rcases e with e | ⟨o, e⟩ <;> rw [e] <;> simp)) (isImms_frzs _) (rls_frzV r hP)
  | dcTO e k l f s r => exact .dcTI (.inl e) k l (hP _ (by rw [e]; simp)) (isImms_frzs _) (rls_frzV r hP)
  | dcTI e k l p i r => exact .dcTI e k l (hP _ (by rcases e with e | ⟨o, e⟩ <;> rw [e] <;> simp)) (isImms_frzs _) (rls_frzV r hP)
  | rol e i r =>
    refine .rol ?_ (isImms_frzs _) (rls_frzV r hP)
    rcases e with ⟨_, e | ⟨o, e⟩⟩ | e
    · exact .inl ⟨hP _ (by rw [e]; simp), .inl e⟩
    · exact .inl ⟨hP _ (by rw [e]; simp), .inr ⟨o, e⟩⟩
    · exact .inr e
  | gv => exact .gv
  | objO e k l f s r => exact .objI e k l (hP _ (by rw [e]; simp)) (isImms_frzs _) (rls_frzV r hP)
  | objI e k l p i r => exact .objI e k l (hP _ (by rw [e]; simp)) (isImms_frzs _) (rls_frzV r hP)
theorem rls_frzV {z : Bool} {K : PySem.W.Frag} {P P' : AS} {H : Hp} {F F' : AS} {ds : List D} {vs : List V} (h : Rls false K P H ds vs F) (hP : ∀ b, H b ≠ none → P' b) : Rls z K P' H (frzs ds) vs F' := by
  cases h with
  | nil => exact .nil
  | cons r rs s1 s2 dj => exact .cons (F1 := fun _ => False) (F2 := fun _ => False) (rl_frzV r hP) (rls_frzV rs hP) (fun b q => q.elim) (fun b q => q.elim) fun _ q => q.elim
end
mutual
/-- every node one's own -/
def ownAll : D → Bool
  | .lst o xs => o && ownAlls xs
  | .dct o _ xs => o && ownAlls xs
  | .dcT o _ xs => o && ownAlls xs
  | .tup _ => false
  | .rol _ => false
  | .gv _ => false
  | .obj _ _ _ _ => false
  | _ => true
def ownAlls : List D → Bool
  | [] => true
  | d :: ds => ownAll d && ownAlls ds
end
def vRes (r : RF) : Option D := match r with
  | .rt d _ => if flatD d = true then some d else none
  | _ => none
def oRes (r : RF) (ρ : Ev) : R D := match r with
  | .rt d _ => if ownAll d = true then .ok d ρ else .stk
  | _ => .stk
def vCall (n : Nat) (sem : Fn) (fa : Ev → Option (List D)) : Ev → Option D := fun ρ => (fa ρ).bind fun ds => if ds.length = n then vRes (sem (frzs ds)) else none
def fCallO (n : Nat) (sem : Fn) (fa : Ev → Option (List D)) : Ev → R D := fun ρ => match fa ρ with
  | some ds => if ds.length = n then oRes (sem (frzs ds)) ρ else .stk
  | none => .stk
section
variable {X : Cx} {RX RX' : RXR} {W : WX} {k j n : Nat} {sem : Fn} {x : Str} {p pos : Pos} {e : Expr} {es : List Expr} {fa : Ev → Option (List D)}
/-- what such a call asks of the def's promise -/
theorem look_sp {K : PySem.W.Frag} {P1 : AS} {H1 : Hp} {ρ : Ev} {σ : L2.St} {FE : FP} {ds : List D} {vs : List V} {Q : VK} {E : XK} (S1 : Stt K P1 H1 ρ σ FE) (r1 : Rls false K P1 H1 ds vs E_) (hl : ds.length = n)
    (h : match sem (frzs ds) with
      | .rt d outs => ∀ v P' H' F, (∀ b o, H1 b = some o → NT o → H' b = some o) → (∀ b, H1 b ≠ none → H' b ≠ none) → LamX.Tabs TabC.T H' → (∀ b, F b → H1 b = none ∧ H' b ≠ none) → Rl true K P' H' d v F → Q v H'
      | _ => False) : spD K RX' (List.replicate n false) sem vs H1 Q E := by
  have lv := rls_len r1
  refine ⟨by rw [List.length_replicate]; omega, fun b => H1 b ≠ none, frzs ds, fun _ => E_, ⟨fun b z => z, fun i b z => z.elim, fun i j b z => z.elim, fun i d e2 => ?_, by rw [List.length_map, List.length_map, frzs_len]; exact lv, S1.tab⟩, fun i _ b z => z.elim, ?_⟩
  · rw [List.getElem?_map] at e2
    cases e3 : (frzs ds)[i]? with
    | none => rw [e3] at e2; cases e2
    | some d' =>
      rw [e3] at e2; cases e2
      obtain ⟨v, e4, r⟩ := rls_get (rls_frzV (z := true) (P' := fun b => H1 b ≠ none) (F' := E_) r1 fun b z => z) e3
      exact ⟨v, by rw [List.getElem?_map, e4]; rfl, r⟩
  · cases e2 : sem (frzs ds) with
    | stk => simp only [e2] at h
    | exc xx outs => simp only [e2] at h
    | rt d outs =>
      simp only [e2] at h
      intro v P2 H2 FA' F2 S2 T2 t2
      exact h v P2 H2 F2 (fun b o e => t2.frame b o e fun ⟨_, z⟩ => z) t2.alive S2.tab (fun b z => ⟨(t2.sub b (.inr z)).elim (fun ⟨_, z⟩ => z.elim) id, (T2.own b z).1⟩) T2.rl
omit [TabC] in
theorem flat_any {K K' : PySem.W.Frag} {P P' : AS} {H H' : Hp} {z z' : Bool} {d : D} {v : V} {F F' : AS} (r : Rl z K P H d v F) (h : flatD d = true) : Rl z' K' P' H' d v F' := by
  cases r <;> first | exact .non | exact .bl | exact .int | exact .str | cases h
theorem dv_callC (C : Cal X.prog X.w X.K X.mg X.base RX' x j (List.replicate n false) sem) (hr : Room k X.A) (hj : j ≤ k) (hg : Gl X x) (ha : DAV X (e :: es) fa) (hdb : (x == ("__debug__" : Str)) = false := by decide)
    (he : starEach (e :: es) X.env = (false, eval e X.env) :: starEach es X.env := by rfl) (hpl : (backTo pos (starEach es X.env)).any (·.1) = false := by rfl) : DV X (.Call (.Name x p) (e :: es) [] pos) (vCall n sem fa) := by
  obtain ⟨f, fd, ps, F, hm, hk, hb⟩ := C.ex
  refine pe_imp (pe_callS F (hr.mono hj) hg hm hk hb (fun σ => L2N.passAt (takesN0 (X := X)) σ) ha hdb he hpl) fun σ H Q q => ?_
  obtain ⟨P, ρ, FE, S, q⟩ := q
  refine ⟨P, ρ, FE, S, ?_⟩
  unfold vCall at q
  cases e1 : fa ρ with
  | none => simp only [e1, Option.bind] at q
  | some ds =>
    simp only [e1, Option.bind] at q
    intro vs P1 H1 n1 r1
    by_cases hl : ds.length = n
    · simp only [if_pos hl] at q
      refine look_sp (n1.stt S) r1 hl ?_
      cases e2 : sem (frzs ds) with
      | stk => simp only [e2, vRes] at q
      | exc xx outs => simp only [e2, vRes] at q
      | rt d outs =>
        simp only [e2, vRes] at q
        by_cases hf : flatD d = true
        · simp only [if_pos hf] at q
          intro v P2 H2 F2 sm al tb nw r
          exact q v P1 H2 (n1.trans_ ⟨sm, al, fun _ => tb, fun b z => z, fun b z => .inl z, fun b z => z.elim⟩) (flat_any r hf)
        · simp only [if_neg hf] at q
    · simp only [if_neg hl] at q
end
section
variable {ρ : Ev} {d : D} {o : Ev}
omit [TabC] in
@[simp] theorem vRes_rt : vRes (.rt d o) = if flatD d = true then some d else none := (rfl)
omit [TabC] in
@[simp] theorem oRes_rt : oRes (.rt d o) ρ = if ownAll d = true then .ok d ρ else .stk := (rfl)
omit [TabC] in
@[simp] theorem ap_vcall {n sem fa} : vCall n sem fa ρ = (fa ρ).bind fun ds => if ds.length = n then vRes (sem (frzs ds)) else none := (rfl)
def fromV (x : Option (List D)) (k : List D → R D) : R D := match x with
  | some ds => k ds
  | none => .stk
omit [TabC] in
@[simp] theorem fromV_s {ds : List D} {k} : fromV (some ds) k = k ds := (rfl)
omit [TabC] in
@[simp] theorem ap_callO {n sem fa} : fCallO n sem fa ρ = fromV (fa ρ) fun ds => if ds.length = n then oRes (sem (frzs ds)) ρ else .stk := by unfold fCallO fromV; rfl
omit [TabC] in
@[simp] theorem flat_int {i} : flatD (.int i) = true := (rfl)
omit [TabC] in
@[simp] theorem flat_bl {i} : flatD (.bl i) = true := (rfl)
omit [TabC] in
@[simp] theorem flat_str {i} : flatD (.str i) = true := (rfl)
omit [TabC] in
@[simp] theorem flat_non : flatD .non = true := (rfl)
omit [TabC] in
@[simp] theorem own_int {i} : ownAll (.int i) = true := (rfl)
omit [TabC] in
@[simp] theorem own_bl {i} : ownAll (.bl i) = true := (rfl)
omit [TabC] in
@[simp] theorem own_str {i} : ownAll (.str i) = true := (rfl)
omit [TabC] in
@[simp] theorem own_non : ownAll .non = true := (rfl)
omit [TabC] in
@[simp] theorem own_lst {xs} : ownAll (.lst true xs) = ownAlls xs := (by simp [ownAll])
end
def hd1 (outs : Ev) : Option D := match outs[1]? with
  | some o => o
  | none => none
def fCallIO1 (j : Nat) (sem : Fn) (f1 : Ev → R D) : Ev → R D := fun ρ => (f1 ρ).bind fun d ρ1 => match ρ1[j]? with
  | some (some d0) => callR (sem [frz d, d0]) ρ1 fun outs => ρ1.set j (hd1 outs)
  | _ => .stk
def fOpNV (g : List D → Option D) (fa : Ev → Option (List D)) : Ev → R D := fun ρ => R.of ((fa ρ).bind g) ρ
section
variable {ρ : Ev}
omit [TabC] in
@[simp] theorem ap_opNV {g fa} : fOpNV g fa ρ = R.of ((fa ρ).bind g) ρ := (rfl)
omit [TabC] in
@[simp] theorem hd1_c {a b : Option D} {os : Ev} : hd1 (a :: b :: os) = b := (rfl)
omit [TabC] in
@[simp] theorem ap_callIO1 {j sem f1} : fCallIO1 j sem f1 ρ = (f1 ρ).bind fun d ρ1 => isS ρ1[j]? fun d0 => callR (sem [frz d, d0]) ρ1 fun outs => ρ1.set j (hd1 outs) := by unfold fCallIO1 isS; rfl
end
def fClear (i : Nat) : Ev → RS := fun ρ => match ρ[i]? with
  | some (some (.lst true _)) => .nx (ρ.set i (some (.lst true [])))
  | _ => .stk
def fExtend (i : Nat) (f : Ev → R (List D)) : Ev → RS := fun ρ => match ρ[i]? with
  | some (some (.lst _ _)) => RS.of (f ρ) fun ds ρ1 => (match ds with
    | [.lst o zs] => (match ρ1[i]? with
      | some (some (.lst true xs)) => if xs.length + zs.length ≤ sizeLine then .nx (ρ1.set i (some (.lst true (xs ++ zs)))) else .stk
      | _ => .stk)
    | _ => .stk)
  | _ => .stk
omit [TabC] in
theorem rls_app2 {z : Bool} {K : PySem.W.Frag} {P : AS} {H : Hp} {es : List D} {ws : List V} {F2 : AS} : ∀ {ds : List D} {vs : List V} {F1 F : AS}, Rls z K P H ds vs F1 → Rls z K P H es ws F2 → (∀ b, F1 b → F b) → (∀ b, F2 b → F b) → (∀ b, F1 b → F2 b → False) → Rls z K P H (ds ++ es) (vs ++ ws) F
  | _, _, F1, F, .nil, r, _, s2, _ => rls_mono r (fun _ q => q) (fun _ _ e _ _ => e) s2
  | _, _, F1, F, .cons (F1 := G1) (F2 := G2) r' rs t1 t2 dj', r, s1, s2, dj =>
    .cons (F1 := G1) (F2 := fun b => G2 b ∨ F2 b) r' (rls_app2 rs r (fun _ q => .inl q) (fun _ q => .inr q) fun b q w => dj b (t2 b q) w) (fun b q => s1 b (t1 b q)) (fun b q => q.elim (fun q => s1 b (t2 b q)) (s2 b)) fun b q w => w.elim (dj' b q) (dj b (t1 b q))
section
variable {X : Cx} {RX : RXR} {W : WX} {kp : List Nat}
theorem ds_extend {s : Stmt} {i : Nat} {f : Ev → R (List D)} (h : PS X s (tDrop (tBM X.K "list" rExtend (tVar i) (tA X.K RX W f)))) : DS X RX W kp s (fExtend i f) := by
  refine ps_imp h fun D σ H q => ?_
  obtain ⟨P, ρ, FE, S, q⟩ := q
  unfold fExtend at q
  split at q
  · rename_i o xs e0
    obtain ⟨v, ev, r⟩ := S.rel i _ e0
    obtain ⟨p, vs, rfl, e, rs⟩ := lst_read r
    refine ⟨.ref p, ev, .inl ⟨rfl, vs, .inl (.inl e)⟩, P, ρ, FE, S, ?_⟩
    cases e1 : f ρ with
    | exc x ρ1 => simp only [e1, RS.of] at q; exact fun cls dx P' H' FE' S' t r => q cls dx σ P' H' FE' S' t Kp.refl r
    | stk => simp only [e1, RS.of] at q; exact q.elim
    | ok ds ρ1 =>
      simp only [e1, RS.of] at q
      intro ws P1 H1 FE1 F1 S1 T1 t1
      split at q
      · rename_i o2 zs
        split at q
        · rename_i ys e2
          split at q
          · rename_i hl
            obtain ⟨p', vs', F', ev', h1, h2, h3, h4⟩ := slot_lst S1 e2
            rw [ev] at ev'; cases ev'
            have nP := (S1.fin i p h2).2
            have nF1 : ¬ F1 p := fun z => (T1.own p z).2.2 ⟨i, h2⟩
            have nF' : ¬ F' p := fun z => (h3 p z).2 rfl
            obtain ⟨w, q0, us, rfl, hw, ru⟩ : ∃ (w : V) (q0 : Addr) (us : List V), ws = [.ref q0] ∧ H1 q0 = some (.lst us) ∧ Rls true X.K P1 H1 zs us F1 := by
              have rl := T1.rl
              cases rl with
              | cons r rs s1 s2 dj =>
                cases rs
                cases r with
                | lstO e f s r => exact ⟨.non, _, _, rfl, e, rls_mono r (fun _ q => q) (fun _ _ e _ _ => e) fun b z => s1 b (s b z).1⟩
                | lstI e p i r => exact ⟨.non, _, _, rfl, e, rls_mono r (fun _ q => q) (fun _ _ e _ _ => e) fun b z => z.elim⟩
            obtain ⟨S2, t2⟩ := slot_write (o := .lst (vs' ++ us)) (d' := .lst true (ys ++ zs)) S1 h1 .lst ev h2 T1.own (.lstO (F' := fun b => F' b ∨ F1 b) upd_same (fun _ => .inl h2) (fun b z => z.elim (fun z => ⟨.inl (h3 b z).1, (h3 b z).2⟩) fun z => ⟨.inr z, fun w => nF1 (by rw [← w]; exact z)⟩)
              (rls_app2 (rls_upd h4 nP nF') (rls_upd ru nP nF1) (fun _ z => .inl z) (fun _ z => .inr z) fun b z w => (T1.own b w).2.2 ⟨i, (h3 b z).1⟩))
            exact ⟨p, q0, vs', us, rfl, rfl, h1, hw, by rw [← rls_len h4, ← rls_len ru]; exact hl, q σ P1 _ _ S2 (t1.trans t2) Kp.refl⟩
          · exact q.elim
        · exact q.elim
      · exact q.elim
  · exact q.elim
end
def clrS (o : Option (Option D)) (i : Nat) (ρ : Ev) : RS := match o with
  | some (some (.lst true _)) => .nx (ρ.set i (some (.lst true [])))
  | _ => .stk
def extS (o : Option (Option D)) (i : Nat) (ds : List D) (ρ : Ev) : RS := match ds with
  | [.lst _ zs] => (match o with
      | some (some (.lst true xs)) => if xs.length + zs.length ≤ sizeLine then .nx (ρ.set i (some (.lst true (xs ++ zs)))) else .stk
      | _ => .stk)
  | _ => .stk
section
variable {ρ : Ev} {xs zs : List D} {i : Nat} {o : Bool}
omit [TabC] in
@[simp] theorem clrS_s : clrS (some (some (.lst true xs))) i ρ = .nx (ρ.set i (some (.lst true []))) := (rfl)
omit [TabC] in
@[simp] theorem ap_clear : fClear i ρ = clrS ρ[i]? i ρ := by unfold fClear clrS; rfl
omit [TabC] in
@[simp] theorem extS_s : extS (some (some (.lst true xs))) i [.lst o zs] ρ = if xs.length + zs.length ≤ sizeLine then .nx (ρ.set i (some (.lst true (xs ++ zs)))) else .stk := (rfl)
omit [TabC] in
@[simp] theorem ap_extend {f} : fExtend i f ρ = isLs ρ[i]? (RS.of (f ρ) fun ds ρ1 => extS ρ1[i]? i ds ρ1) := by unfold fExtend isLs extS; rfl
end
end Hap
namespace Hap
open PySem PySem.Spec PyProof.Rows L2
variable [TabC]
theorem walks_zipT {K : PySem.W.Frag} {P0 : AS} {H0 : Hp} {ds es : List D} {p q : Addr} (h : ∃ vs, H0 p = some (.tup vs) ∧ P0 p ∧ Rls true K P0 H0 ds vs E_) (k : ∃ vs, H0 q = some (.tup vs) ∧ P0 q ∧ Rls true K P0 H0 es vs E_) : Walks K (RZ.ItzT K p q) P0 H0 (zipD ds es) where
  go := fun P H i d _ hP hH hd => by
    obtain ⟨vs, e, pp, r⟩ := h
    obtain ⟨ws, e', pq, r'⟩ := k
    obtain ⟨a, b, h1, h2, h3⟩ := zipD_get hd
    have mo : ∀ {ds vs}, Rls true K P0 H0 ds vs E_ → Rls true K P H ds vs E_ := fun r => rls_mono r hP (fun b o e q => hH b o ((q rfl).elim id False.elim) e) fun _ z => z
    obtain ⟨v, e1, r1⟩ := rls_get (mo r) h1
    obtain ⟨w, e2, r2⟩ := rls_get (mo r') h2
    have s : SqT K H p vs := .inl (.inl (hH _ _ pp e nt_tup))
    have s' : SqT K H q ws := .inl (.inl (hH _ _ pq e' nt_tup))
    refine ⟨⟨vs, ws, v, w, s, s', e1, e2⟩, fun x H3 y => ?_⟩
    obtain ⟨T, x1, x2, rfl, hT, rfl, y1, y2⟩ := y
    have z1 := y1 vs s
    have z2 := y2 ws s'
    rw [e1] at z1; cases z1
    rw [e2] at z2; cases z2
    rw [h3]
    exact New.pair hT r1 r2
  stop := fun H hH => by
    obtain ⟨vs, e, pp, r⟩ := h
    obtain ⟨ws, e', pq, r'⟩ := k
    refine ⟨vs, ws, .inl (.inl (hH _ _ pp e nt_tup)), .inl (.inl (hH _ _ pq e' nt_tup)), ?_⟩
    rw [zipD_len, ← rls_len r, ← rls_len r']
    omega
def zipLT (ds : List D) : Option (List D) := match ds with
  | [.tup xs, .tup ys] => some (zipD (frzs xs) (frzs ys))
  | _ => none
theorem di_zipT {X : Cx} {RX : RXR} {W : WX} {a b : Expr} {f : Ev → R (List D)} {p pos tpos : Pos} {elts : List Expr} {kk : Nat} (h : PI X (.Tuple elts kk tpos) (.Call (.Name "zip" p) [a, b] [] pos) (RZ.iZipA X.K (tA X.K RX W f))) :
    DI X RX W (.Tuple elts kk tpos) (.Call (.Name "zip" p) [a, b] [] pos) (fItN zipLT f) := by
  refine pi_imp h fun σ H Q q => a_it q fun P H1 ρ FE vs ds F ds' S T g k => ?_
  unfold zipLT at g
  split at g
  · cases g
    obtain ⟨v, w, F1, F2, rfl, r, r', s1, s2, dj⟩ := rls2 T.rl
    cases r with
    | tup e pp r =>
      cases r' with
      | tup e' pq r' =>
        have m1 := rls_frz (z := true) (F' := E_) (P' := fun b => P b ∨ F b) r (fun b z => .inl z) fun b z => .inr (s1 b z)
        have m2 := rls_frz (z := true) (F' := E_) (P' := fun b => P b ∨ F b) r' (fun b z => .inl z) fun b z => .inr (s2 b z)
        exact ⟨_, _, _, _, rfl, .inr ⟨.inl (.inl e), .inl (.inl e'), k _ (walks_zipT ⟨_, e, .inl pp, m1⟩ ⟨_, e', .inl pq, m2⟩)⟩⟩
  · cases g
theorem dss_stk {X : Cx} {RX : RXR} {W : WX} {kp : List Nat} {ss : List Stmt} : DSs X RX W kp ss (fun _ => .stk) := ⟨fun pins s σ H D I q => by
  obtain ⟨_, _, _, _, q⟩ := q
  exact q.elim⟩
end Hap
namespace Hap
open PySem PySem.Spec PyProof.Rows L2
variable [TabC]
def fCallF (n : Nat) (sem : Fn) (fa : Ev → R (List D)) : Ev → R D := fun ρ => (fa ρ).bind fun ds ρ1 => match ds with
  | d0 :: ds' => if ds'.length + 1 = n then callR (sem (d0 :: frzs ds')) ρ1 fun _ => ρ1 else .stk
  | [] => .stk
def apF (sem : Fn) (n : Nat) (ds : List D) (ρ1 : Ev) : R D := match ds with
  | d0 :: ds' => if ds'.length + 1 = n then callR (sem (d0 :: frzs ds')) ρ1 fun _ => ρ1 else .stk
  | [] => .stk
omit [TabC] in
@[simp] theorem apF_c {sem : Fn} {n : Nat} {d0 : D} {ds : List D} {ρ : Ev} : apF sem n (d0 :: ds) ρ = if ds.length + 1 = n then callR (sem (d0 :: frzs ds)) ρ fun _ => ρ else .stk := (rfl)
omit [TabC] in
@[simp] theorem ap_callF {n : Nat} {sem : Fn} {fa : Ev → R (List D)} {ρ : Ev} : fCallF n sem fa ρ = (fa ρ).bind fun ds ρ1 => apF sem n ds ρ1 := by
  unfold fCallF apF; rfl
def revS (z : Str) : Str := ⟨z.cps.toList.reverse.toArray⟩
def gRevS (d : D) : Option D := match d with
  | .str z => if z.length ≤ sizeLine then some (.str (revS z)) else none
  | _ => none
omit [TabC] in
@[simp] theorem revS_s {z : Str} : gRevS (.str z) = if z.length ≤ sizeLine then some (.str (revS z)) else none := (rfl)
omit [TabC] in
theorem imms_strs : ∀ xs : List Str, isImms (xs.map D.str) = true
  | [] => rfl
  | x :: xs => by
    show (isImm (.str x) && isImms (xs.map D.str)) = true
    rw [imms_strs xs]; rfl
omit [TabC] in
theorem rls_strs {z : Bool} {K : PySem.W.Frag} {P : AS} {H : Hp} {F : AS} : ∀ xs : List Str, Rls z K P H (xs.map D.str) (xs.map V.str) F
  | [] => .nil
  | n :: ns => .cons (F1 := fun _ => False) (F2 := fun _ => False) .str (rls_strs ns) (fun b z => z.elim) (fun b z => z.elim) fun b z => z.elim
end Hap
namespace Hap
open PySem PySem.Spec PyProof.Rows L2 PySem.W
variable [TabC]
def fuel : Nat := 1000000
omit [TabC] in
@[simp] theorem ap_while {n : Nat} {c : Ev → R Bool} {g : Ev → RS} {ρ : Ev} : fWhile n c g ρ = whileS c g n ρ := (rfl)
end Hap
namespace Hap
open PySem PySem.Spec PyProof.Rows L2
variable [TabC]
def frzE (ρ : Ev) : Ev := ρ.map (Option.map frz)
def fLook (f : Ev → R D) : Ev → R D := fun ρ => match f (frzE ρ) with
  | .ok d _ => if ownAll d = true then .ok d ρ else .stk
  | _ => .stk
def lookR (r : R D) (ρ : Ev) : R D := match r with
  | .ok d _ => if ownAll d = true then .ok d ρ else .stk
  | _ => .stk
omit [TabC] in
@[simp] theorem lookR_ok {d : D} {ρ ρ' : Ev} : lookR (.ok d ρ') ρ = if ownAll d = true then .ok d ρ else .stk := (rfl)
omit [TabC] in
@[simp] theorem ap_look {f : Ev → R D} {ρ : Ev} : fLook f ρ = lookR (f (frzE ρ)) ρ := by unfold fLook lookR; rfl
omit [TabC] in
@[simp] theorem frzE_nil : frzE [] = [] := (rfl)
omit [TabC] in
@[simp] theorem frzE_c {o : Option D} {ρ : Ev} : frzE (o :: ρ) = o.map frz :: frzE ρ := (rfl)
end Hap
namespace Hap
open PySem PySem.Spec PyProof.Rows L2
variable [TabC]
mutual
/-- no list or dict in it -/
def noL : D → Bool
  | .lst _ _ => false
  | .dct _ _ _ => false
  | .dcT _ _ _ => false
  | .rol _ => false
  | .gv _ => false
  | .obj _ _ _ _ => false
  | .tup xs => noLs xs
  | _ => true
def noLs : List D → Bool
  | [] => true
  | d :: ds => noL d && noLs ds
end
def tRes (r : RF) (ρ : Ev) : R D := match r with
  | .rt d _ => if noL d = true then .ok d ρ else .stk
  | _ => .stk
def fCallT (n : Nat) (sem : Fn) (fa : Ev → Option (List D)) : Ev → R D := fun ρ => match fa ρ with
  | some ds => if ds.length = n then tRes (sem (frzs ds)) ρ else .stk
  | none => .stk
section
variable {ρ : Ev} {d : D} {o : Ev} {ds : List D}
omit [TabC] in
@[simp] theorem tRes_rt : tRes (.rt d o) ρ = if noL d = true then .ok d ρ else .stk := (rfl)
omit [TabC] in
@[simp] theorem ap_callT {n sem fa} : fCallT n sem fa ρ = fromV (fa ρ) fun ds => if ds.length = n then tRes (sem (frzs ds)) ρ else .stk := by unfold fCallT fromV; rfl
omit [TabC] in
@[simp] theorem noL_non : noL .non = true := (rfl)
omit [TabC] in
@[simp] theorem noL_int {i} : noL (.int i) = true := (rfl)
omit [TabC] in
@[simp] theorem noL_str {i} : noL (.str i) = true := (rfl)
omit [TabC] in
@[simp] theorem noL_bl {i} : noL (.bl i) = true := (rfl)
omit [TabC] in
@[simp] theorem noL_tup : noL (.tup ds) = noLs ds := (by simp [noL])
omit [TabC] in
@[simp] theorem noLs_nil : noLs [] = true := (rfl)
omit [TabC] in
@[simp] theorem noLs_cons : noLs (d :: ds) = (noL d && noLs ds) := (rfl)
end
def gRep (d e : D) : Option D := match d, e with
  | .lst _ xs, .int k => if isImms xs = true ∧ -(2 ^ 63) ≤ k ∧ k < 2 ^ 63 ∧ xs.length * k.toNat ≤ sizeLine then some (.lst true (List.replicate k.toNat xs).flatten) else none
  | _, _ => none
omit [TabC] in
theorem imms_flat {xs : List D} (h : isImms xs = true) : ∀ n : Nat, isImms (List.replicate n xs).flatten = true
  | 0 => rfl
  | n + 1 => by rw [List.replicate_succ, List.flatten_cons]; exact isImms_app h (imms_flat h n)
omit [TabC] in
theorem rls_flat {z : Bool} {K : PySem.W.Frag} {P : AS} {H : Hp} {xs : List D} {vs : List V} (r : Rls z K P H xs vs E_) : ∀ n : Nat, Rls z K P H (List.replicate n xs).flatten (List.replicate n vs).flatten E_
  | 0 => .nil
  | n + 1 => by rw [List.replicate_succ, List.replicate_succ, List.flatten_cons, List.flatten_cons]; exact rls_app r (rls_flat r n)
theorem vRep {K : PySem.W.Frag} : VOp2 K rRep gRep := by
  intro P H d e v w x Q pin r1 r2 g h
  unfold gRep at g
  split at g
  · rename_i o xs k
    by_cases c : isImms xs = true ∧ -(2 ^ 63) ≤ k ∧ k < 2 ^ 63 ∧ xs.length * k.toNat ≤ sizeLine
    · rw [if_pos c] at g; cases g
      obtain ⟨p, vs, rfl, e1, rs⟩ := lst_read r1
      refine ⟨p, k, vs, rfl, rl_int r2, e1, c.2.1, c.2.2.1, by rw [← rls_len rs]; exact c.2.2.2, fun q hq => ?_⟩
      obtain ⟨n, r⟩ := new_lst hq pin (imms_flat c.1 k.toNat) (rls_flat rs k.toNat)
      exact h _ _ _ _ n r
    · rw [if_neg c] at g; cases g
  · cases g
end Hap
namespace Hap
open PySem PySem.Spec PyProof.Rows L2
end Hap
namespace Hap
open PySem PySem.Spec PyProof.Rows L2
end Hap
namespace Hap
open PySem PySem.Spec PyProof.Rows L2
end Hap
namespace Hap
open PySem PySem.Spec PyProof.Rows L2
variable [TabC]
def keysT (d : D) : Option (List Key) := match d with
  | .tup ds => keysOf ds
  | _ => none
def putD (o : D) (e d : D) : Option D := match o with
  | .dct true ks xs => (match keyOf e with
    | some c => if xs.length < sizeLine then some (.dct true (putKs ks xs c d).1 (putKs ks xs c d).2) else none
    | none => none)
  | .dcT true ks xs => (match keysT e with
    | some c => if xs.length < sizeLine then some (.dcT true (putKs ks xs c d).1 (putKs ks xs c d).2) else none
    | none => none)
  | _ => none
def fPutD (i : Nat) (f k : Ev → R D) : Ev → RS := fun ρ => RS.of (f ρ) fun d ρ1 => match ρ1[i]? with
  | some (some _) => RS.of (k ρ1) fun e ρ2 => (match ρ2[i]? with
    | some (some o) => (match putD o e (frz d) with
      | some o' => .nx (ρ2.set i (some o'))
      | none => .stk)
    | _ => .stk)
  | _ => .stk
def fDNewK : Ev → R D := fun ρ => .ok (.dct true [] []) ρ
def fDNewT : Ev → R D := fun ρ => .ok (.dcT true [] []) ρ
def putR (o : Option (Option D)) (i : Nat) (e d : D) (ρ : Ev) : RS := match o with
  | some (some o) => (match putD o e (frz d) with
    | some o' => .nx (ρ.set i (some o'))
    | none => .stk)
  | _ => .stk
omit [TabC] in
@[simp] theorem ap_dnewK {ρ : Ev} : fDNewK ρ = .ok (.dct true [] []) ρ := (rfl)
omit [TabC] in
@[simp] theorem ap_dnewT {ρ : Ev} : fDNewT ρ = .ok (.dcT true [] []) ρ := (rfl)
omit [TabC] in
@[simp] theorem ap_putD {i : Nat} {f k : Ev → R D} {ρ : Ev} : fPutD i f k ρ = RS.of (f ρ) fun d ρ1 => isSS ρ1[i]? (RS.of (k ρ1) fun e ρ2 => putR ρ2[i]? i e d ρ2) := by
  unfold fPutD isSS putR; rfl
end Hap
namespace Hap
open PySem PySem.Spec PyProof.Rows L2
variable [TabC]
def isDct (d : D) : Bool := match d with
  | .dct _ _ _ => true
  | .dcT _ _ _ => true
  | _ => false
def dctO (o : Option (Option D)) (k : R D) : R D := match o with
  | some (some o0) => if isDct o0 = true then k else .stk
  | _ => .stk
end Hap
namespace Hap
open PySem PySem.Spec PyProof.Rows L2
variable [TabC]
def isStrD (d : D) : Bool := match d with
  | .str _ => true
  | _ => false
def gFind (d : D) (ds : List D) : Option D := match d, ds with
  | .str a, [.str b] => some (.int (Txt.find a b))
  | _, _ => none
omit [TabC] in
theorem tyV_str {K : PySem.W.Frag} {P : AS} {H : Hp} {d : D} {v : V} (r : Rl false K P H d v E_) (t : isStrD d = true) : tyV K "str" v H := by
  cases d with
  | str x => rw [rl_str r]; exact (rfl : "str" = "str")
  | _ => cases t
theorem vFind {K : PySem.W.Frag} : VMt K "str" (fun x xs H Q => ∃ a b, x = .str a ∧ xs = [.str b] ∧ Q (.int (Txt.find a b)) H) gFind isStrD := by
  refine ⟨fun P H d v r t => tyV_str r t, fun P H d ds v vs x Q pin r rs g h => ?_⟩
  unfold gFind at g
  split at g
  · cases g
    obtain ⟨w, rfl, rw'⟩ := rls1 rs
    rw [rl_str r, rl_str rw']
    exact ⟨_, _, rfl, rfl, h _ P H E_ New.refl .int⟩
  · cases g
end Hap
namespace Hap
open PySem PySem.Spec PyProof.Rows L2
variable [TabC]
def rMulS : R2 := fun x y H Q => ∃ (i : Str) (k : Int), x = .str i ∧ y = .int k ∧ 0 ≤ k ∧ k ≤ 1000000 ∧ i.length ≤ 1000000 ∧ i.length * k.toNat ≤ sizeLine ∧ Q (.str (Txt.mul i k)) H
omit [TabC] in
theorem mulOk {i : Str} {k : Int} (h0 : 0 ≤ k) (h1 : k ≤ 1000000) (h2 : i.length ≤ 1000000) (h3 : i.length * k.toNat ≤ sizeLine) : MulOk i k := by
  refine ⟨?_, fun c _ => ?_, fun _ _ => ?_⟩
  · rw [Bool.or_eq_false_iff]
    refine ⟨decide_eq_false ?_, decide_eq_false ?_⟩ <;> omega
  · have : ((i.length : Nat) : Int) ≤ (2 ^ 63 - 1) / k := by
      rw [Int.le_ediv_iff_mul_le (by omega)]
      have : (i.length : Int) * k ≤ 1000000 * 1000000 := Int.mul_le_mul (by omega) h1 h0 (by omega)
      omega
    omega
  · unfold Builtin.Str.tooLong
    exact decide_eq_false (Nat.not_lt.mpr h3)
omit [TabC] in
theorem op_mulS {X : Cx} : OpR X (binaryOp .Mult) rMulS := by
  intro pins s σ H x y v u Q I rx ry h
  obtain ⟨i, k, rfl, rfl, h0, h1, h2, h3, q⟩ := h
  obtain ⟨t, rfl⟩ := rx
  obtain ⟨t', rfl⟩ := ry
  exact SB.mul (mulOk h0 h1 h2 h3) fun t' tk => ⟨.str (Txt.mul i k), H, I.tok _, ⟨_, rfl⟩, q⟩
abbrev rMulX : R2 := fun x y H Q => rI CMul (fun i j => .int (i * j)) x y H Q ∨ rMulS x y H Q
omit [TabC] in
theorem op_mulTI {X : Cx} : OpR X (binaryOp .Mult) rMulX := op_mul.or op_mulS
def gMulX (d e : D) : Option D := match d, e with
  | .int i, .int j => gMul (.int i) (.int j)
  | .str x, .int k => if 0 ≤ k ∧ k ≤ 1000000 ∧ x.length ≤ 1000000 ∧ x.length * k.toNat ≤ sizeLine then some (.str (Txt.mul x k)) else none
  | _, _ => none
theorem vMulX {K : PySem.W.Frag} : VOp2 K rMulX gMulX := by
  intro P H d e v w x Q pin r1 r2 g h
  unfold gMulX at g
  split at g
  · exact .inl (vMul P H _ _ v w x Q pin r1 r2 g h)
  · rename_i i k
    by_cases c : 0 ≤ k ∧ k ≤ 1000000 ∧ i.length ≤ 1000000 ∧ i.length * k.toNat ≤ sizeLine
    · rw [if_pos c] at g; cases g
      rw [rl_str r1, rl_int r2]
      exact .inr ⟨_, _, rfl, rfl, c.1, c.2.1, c.2.2.1, c.2.2.2, h _ P H E_ New.refl .str⟩
    · rw [if_neg c] at g; cases g
  · cases g
omit [TabC] in
@[simp] theorem mulX_ii {i j} : gMulX (.int i) (.int j) = if CMul i j then some (.int (i * j)) else none := (rfl)
end Hap
namespace HotLc
open PySem PySem.Spec PyProof.Rows L2 L2H
/-- the block's context, the handled exception pinned -/
abbrev hblk (X : Cx) (q : Addr × Obj) (s : Shared) (H : Hp) (scope : Scope) (ce : Env) (fp : List Addr) : Cx := (X.blk s H scope ce fp).tr ([] ++ [q]) (fun _ _ => False)
section
variable {X : Cx} {q : Addr × Obj}
theorem hblk_hot {s : Shared} {H : Hp} {scope : Scope} {ce : Env} {fp : List Addr} (h : Hot1 X.A q) : HotC (hblk X q s H scope ce fp) := ⟨q, h, by simp⟩
theorem hblk_fp {s s5 : Shared} {H H5 : Hp} {scope : Scope} {ce : Env} {fp : List Addr} {σ5 : L2.St} (I5 : Inv (hblk X q s H scope ce fp) [] σ5 H5 s5) (nq : ∀ b ∈ fp, q.1 ≠ b) (hn : ∀ b ∈ fp, H5 b = none) : ∀ b ∈ fp, FpOk (hblk X q s H scope ce fp) [] H5 b := fun b hb => by
  have x1 := I5.ok.exf b hb
  have x2 := I5.ok.exfs b hb
  refine ⟨hn b hb, x1.1, x2, .inl hb, fun y c e => x1.2 y c e, fun r hr => ?_⟩
  have er : r = q := by
    have hr' : r ∈ ([] ++ [q]) ++ ([] : List (Addr × Obj)) := hr
    simpa using hr'
  rw [er]
  exact nq b hb
theorem core {pins : List (Addr × Obj)} {s : Shared} {σ : L2.St} {H : Hp} {Q : VK} {elt tg iter : Expr} {ifs : List Expr} {scope : Scope} {own : List (Str × Nat)} {pos pos' : Pos} {wi : TI} {g : TG} {tt : TT} {te : TE} {use : Option (Value → Sem Unit)} {Qf : Value → Shared → Prop}
    (hot : Hot1 X.A q) (hq : q ∈ X.pn) (hN : X.N.Nodup) (I : Inv X pins σ H s) (hi : PIH X tg iter wi) (ok : BlkOk X.N X.env.scope scope own)
    (hg : ∀ (s : Shared) (H : Hp) (C : Addr) (cl : List (Str × Addr)) (fp : List Addr), PG (hblk X q s H scope (compEnvC scope cl C X.env) fp) tg g)
    (ht : ∀ (s : Shared) (H : Hp) (C : Addr) (cl : List (Str × Addr)) (fp : List Addr), PTs (hblk X q s H scope (compEnvC scope cl C X.env) fp) ifs tt)
    (he : ∀ (s : Shared) (H : Hp) (C : Addr) (cl : List (Str × Addr)) (fp : List Addr), PE (hblk X q s H scope (compEnvC scope cl C X.env) fp) elt te) (hs : ∀ x, foldedSetIterable iter X.env x = pure x)
    (w : tLc wi g tt te (own.map (·.2)) σ H Q)
    (fin : ∀ D C s' m H', Inv X pins σ H' s' → Q (.ref D) H' → s'.heap.Ns C m → FpOk X pins H' C → compPost (model X.prog X.w) X.A X.xe use Qf (.ref D) C (.ok .next) s') :
    wpAny (model X.prog X.w) X.A (comprehension (.ListComp elt [⟨tg, iter, ifs, 0⟩] scope pos) scope X.env pos' (newList []) false (eval iter X.env) use) Qf X.xe s := by
  have clo : ∀ y ∈ scope.names, y.2 = .free → ∃ c, X.env.cells.lookup y.1 = some c := fun y hy e => I.ok.has _ ((ok.free y hy e).imp id id)
  refine wpAny_comprehension_free (use := use) rfl hs (closure_ok clo) ok.kind (fun y hy e => (ok.uniq y hy).trans (congrArg some e)) (thn (hi.run pins s σ H _ I w) fun xv t1 hx => thn hx fun itv t2 z2 => ?_)
  obtain ⟨it, fp, tn, J, G, ei, I2, T, st, fpo, u⟩ := z2
  cases ei
  refine wpAny_newObj_type (newEnv_comp ?_) (Nat.zero_le _)
  obtain ⟨D, eD⟩ : ∃ D, D = t2.heap.objs.size := ⟨_, rfl⟩
  rw [← eD]
  have nD : G D = none := I2.hok.fresh (Nat.le_of_eq eD.symm)
  obtain ⟨W, ⟨m0, w0⟩, turn⟩ := u D nD
  obtain ⟨t3, e3⟩ : ∃ t3 : Shared, t3 = { t2 with heap := t2.heap.push { cls := .type "list", data := .seq ([] : List Value).toArray } } := ⟨_, rfl⟩
  rw [← e3]
  have hp3 : t3.heap = t2.heap.push { cls := .type "list", data := .seq ([] : List Value).toArray } := congrArg Shared.heap e3
  have at3 : ∀ b o, t2.heap.get? b = some o → t3.heap.get? b = some o := fun b o e => by rw [hp3]; exact Heap.get?_push_of_some _ e
  have I3 : Inv X pins σ (upd G D (.lst [])) t3 := by
    rw [e3]
    refine I2.laid (t' := t2.toks) (fun b o e => Heap.get?_push_of_some _ e) (Nat.le_of_eq eD.symm) ⟨Nat.zero_le _, [], 0, .nil, ?_⟩
    rw [eD]
    exact Heap.get?_push_size _ rfl
  have low : ∀ b ∈ fp, b < t2.heap.objs.size := fun b hb => let ⟨_, e, _⟩ := T.obj _ _ st b hb; Heap.lt_size e
  have f3 : ∀ b ∈ fp, FpOk X pins (upd G D (.lst [])) b ∧ b < t3.heap.objs.size := fun b hb => by
    have lb := low b hb
    have ne : b ≠ D := fun e => by rw [e, eD] at lb; exact Nat.lt_irrefl _ lb
    refine ⟨⟨(upd_ne ne).trans (fpo b hb).1, (fpo b hb).2⟩, ?_⟩
    rw [hp3, Heap.size_push]
    exact Nat.lt_succ_of_lt lb
  have nq : ∀ b ∈ fp, q.1 ≠ b := fun b hb => (fpo b hb).2.2.2.2.2 q (List.mem_append_left _ hq)
  have st3 : tn 0 t3.heap := T.keep _ _ _ st fun b _ o e => at3 b o e
  have I4 := block_start I3 ok hN f3
  have pg := hg t3 (upd G D (.lst [])) t3.heap.objs.size (cellsFrom (t3.heap.objs.size + 1) scope.names (cloFrom X.env.cells scope.names [])) fp
  have pt := ht t3 (upd G D (.lst [])) t3.heap.objs.size (cellsFrom (t3.heap.objs.size + 1) scope.names (cloFrom X.env.cells scope.names [])) fp
  have pe := he t3 (upd G D (.lst [])) t3.heap.objs.size (cellsFrom (t3.heap.objs.size + 1) scope.names (cloFrom X.env.cells scope.names [])) fp
  show codeAny _ _ (.compStart (.ListComp elt [⟨tg, iter, ifs, 0⟩] scope pos) 0 (.ref it) (.ref D) (compEnvC scope (cellsFrom (t3.heap.objs.size + 1) scope.names (cloFrom X.env.cells scope.names [])) t3.heap.objs.size X.env)) (compPost (model X.prog X.w) X.A X.xe use Qf (.ref D) t3.heap.objs.size) { t3 with heap := pushCells (t3.heap.push { cls := .type "dict", data := .dict #[] }) scope.names }
  have f3n : ∀ b ∈ fp, (upd G D (.lst [])) b = none := fun b hb => (f3 b hb).1.1
  have lc : (compEnvC scope (cellsFrom (t3.heap.objs.size + 1) scope.names (cloFrom X.env.cells scope.names [])) t3.heap.objs.size X.env).locals = t3.heap.objs.size := rfl
  revert I4 pg pt pe lc
  generalize compEnvC scope (cellsFrom (t3.heap.objs.size + 1) scope.names (cloFrom X.env.cells scope.names [])) t3.heap.objs.size X.env = ce
  intro I4 pg pt pe lc
  obtain ⟨H3, eH⟩ : ∃ H3, H3 = upd G D (.lst []) := ⟨_, rfl⟩
  rw [← eH] at I3 I4 pg pt pe w0 f3n f3
  obtain ⟨t4, e4⟩ : ∃ t4 : Shared, t4 = { t3 with heap := pushCells (t3.heap.push { cls := .type "dict", data := .dict #[] }) scope.names } := ⟨_, rfl⟩
  rw [← e4] at I4 ⊢
  have at4 : ∀ b o, t3.heap.get? b = some o → t4.heap.get? b = some o := fun b o e => by rw [e4]; exact pushCells_keeps _ _ _ _ (Heap.get?_push_of_some _ e)
  have st4 : tn 0 t4.heap := T.keep _ _ _ st3 fun b _ o e => at4 b o e
  -- the handled exception is pinned in the block
  have pq := I3.pin q (List.mem_append_left _ hq)
  have qin : t3.heap.get? q.1 = some q.2 := pq.1
  have J4 : Inv (hblk X q t3 H3 scope ce fp) [] (wipe σ (own.map (·.2))) H3 t4 := by
    refine Inv.toTry (pins := [q]) (I4.pins_of fun r hr => ?_) (fun _ _ => False)
    have er : r = q := by simpa using hr
    rw [er]
    refine ⟨at4 _ _ qin, pq.2.1, ?_, fun z => ?_, pq.2.2.2.2⟩
    · show q.1 ≠ ce.locals
      rw [lc]
      exact Nat.ne_of_lt (Heap.lt_size qin)
    · rcases List.mem_cons.mp (I3.stkSub _ z) with e | e
      · exact pq.2.2.1 e
      · exact pq.2.2.2.1 e
  have hc : HotC (hblk X q t3 H3 scope ce fp) := hblk_hot hot
  have loop : codeAny (model X.prog X.w) X.A (.compLoop (.ListComp elt [⟨tg, iter, ifs, 0⟩] scope pos) 0 (.ref it) (.ref D) ce) (compPost (model X.prog X.w) X.A X.xe use Qf (.ref D) t3.heap.objs.size) t4 := by
    refine compLoop_any (fun n s' => ∃ i H', Inv (hblk X q t3 H3 scope ce fp) [] (wipe σ (own.map (·.2))) H' s' ∧ tn i s'.heap ∧ (∀ b ∈ fp, H' b = none) ∧ W i n H') ?_ m0 ⟨0, H3, J4, st4, f3n, w0⟩
    rintro n t5 ⟨i, H5, J5, st5, n5, w5⟩
    rcases turn i n H5 w5 with ⟨stop, qq⟩ | ⟨go, Nx, hNx, step⟩
    · have td := T.done (hblk X q t3 H3 scope ce fp) rfl rfl rfl hc i [] t5 _ H5 (fun _ _ => False) J5 (hblk_fp J5 nq n5) st5 stop
      refine thnF td fun r t6 z6 => ?_
      obtain ⟨er, J6⟩ := z6
      cases er
      have I7 : Inv X pins σ H5 t6 := I3.call' (ch := fp) J6.os J6.base J6.hok J6.bare fun b hb => by
        obtain ⟨_, y2, y3, y4, y5, y6⟩ := (f3 b hb).1
        exact ⟨y4, y2, y5, y6⟩
      obtain ⟨m, hm, _⟩ := J6.loc
      have hm' : t6.heap.Ns ce.locals m := hm
      have nC : H5 ce.locals = none := J6.free
      rw [lc] at hm' nC
      exact fin D t3.heap.objs.size t6 m H5 I7 qq hm' (I3.fpOk (Nat.le_refl _) nC)
    · have ti := T.item (hblk X q t3 H3 scope ce fp) rfl rfl rfl hc i [] t5 _ H5 (fun _ _ => False) J5 (hblk_fp J5 nq n5) st5 go
      refine thnF ti fun r t6 z6 => ?_
      obtain ⟨v, er, z6⟩ := z6
      cases er
      refine thnF z6 fun _ t7 z7 => ?_
      obtain ⟨x, H7, J7, r7, y7, st7, n7⟩ := z7
      have K7 := J7.pinned (hblk_fp J7 nq n7) (T.obj _ _ st7)
      refine thnF (pg.run _ t7 _ H7 x v _ K7 r7 (step x H7 y7)) fun _ t8 z8 => ?_
      obtain ⟨σ8, H8, J8, hw, q8⟩ := z8
      refine thnF (pt.run _ t8 σ8 H8 _ J8 q8) fun b t9 z9 => ?_
      obtain ⟨H9, J9, q9⟩ := z9
      have back : ∀ {s' : Shared} {H' : Hp}, Inv (hblk X q t3 H3 scope ce fp) ([] ++ pinsAt fp t7.heap) σ8 H' s' → Nx H' → ∃ m, m < n ∧ ∃ i H', Inv (hblk X q t3 H3 scope ce fp) [] (wipe σ (own.map (·.2))) H' s' ∧ tn i s'.heap ∧ (∀ b ∈ fp, H' b = none) ∧ W i m H' := fun {s' H'} K nx => by
        obtain ⟨m', lm, w'⟩ := hNx H' nx
        have still : ∀ b ∈ fp, ∀ o, t7.heap.get? b = some o → s'.heap.get? b = some o ∧ H' b = none := fun b hb o e => by
          have z := K.pin (b, o) (List.mem_append_right _ (List.mem_append_right _ (mem_pinsAt hb e)))
          exact ⟨z.1, z.2.1⟩
        refine ⟨m', lm, i + 1, H', (K.unpinned (pins := [])).weak ?_ (fun j v e => ?_), T.keep _ _ _ st7 fun b hb o e => (still b hb o e).1, fun b hb => ?_, w'⟩
        · rw [← hw]; exact wipe_length _ _
        · rw [← hw] at e
          exact (wipe_some e).1
        · obtain ⟨o, e, _⟩ := T.obj _ _ st7 b hb
          exact (still b hb o e).2
      cases b with
      | false =>
        rw [if_neg Bool.false_ne_true] at q9 ⊢
        exact back J9 q9
      | true =>
        rw [if_pos rfl] at q9 ⊢
        refine thnF (pe.run _ t9 σ8 H9 _ J9 q9) fun z t10 z10 => ?_
        obtain ⟨yv, H10, J10, r10, acc, hD, hz, nx⟩ := z10
        exact app_ok (X := hblk X q t3 H3 scope ce fp) J10 hD hz r10 fun t11 J11 => back J11 nx
  exact codeAny_compStart_list loop (T.self X.A 0 _ _ _ st4 loop)
/-- name = [..], the name a local -/
theorem ps_setLcH {i : Nat} {y : Str} {py : Pos} {elt tg iter : Expr} {ifs : List Expr} {scope : Scope} {own : List (Str × Nat)} {pos spos : Pos} {wi : TI} {g : TG} {tt : TT} {te : TE} (hot : Hot1 X.A q) (hq : q ∈ X.pn) (hN : X.N.Nodup) (hy : X.N[i]? = some y) (hyl : X.env.kindOf y = some .local)
    (hsw : swapsWith (.ListComp elt [⟨tg, iter, ifs, 0⟩] scope pos) (some (.Name y py)) spos.line X.env = pure true) (hi : PIH X tg iter wi) (ok : BlkOk X.N X.env.scope scope own)
    (hg : ∀ (s : Shared) (H : Hp) (C : Addr) (cl : List (Str × Addr)) (fp : List Addr), PG (hblk X q s H scope (compEnvC scope cl C X.env) fp) tg g)
    (ht : ∀ (s : Shared) (H : Hp) (C : Addr) (cl : List (Str × Addr)) (fp : List Addr), PTs (hblk X q s H scope (compEnvC scope cl C X.env) fp) ifs tt)
    (he : ∀ (s : Shared) (H : Hp) (C : Addr) (cl : List (Str × Addr)) (fp : List Addr), PE (hblk X q s H scope (compEnvC scope cl C X.env) fp) elt te) (hs : ∀ x, foldedSetIterable iter X.env x = pure x := by intro _; rfl) :
    PS X (.Assign [.Name y py] (.ListComp elt [⟨tg, iter, ifs, 0⟩] scope pos) spos) (tAsg (tLc wi g tt te (own.map (·.2))) (gName i)) := by
  refine ⟨fun pins s σ H D I w => ?_⟩
  rw [exec_Assign_Name_used _ _ _ _ hsw]
  refine wpAny_bind (wpAny_standAt (wpAny_bind ?_))
  show wpAny _ X.A (do let _ ← comprehension (.ListComp elt [⟨tg, iter, ifs, 0⟩] scope pos) scope X.env (firstIterPos [⟨tg, iter, ifs, 0⟩] pos) (newList []) false (eval iter X.env) (some (assign (.Name y py) X.env)); _) _ _ s
  have w' : tLc wi g tt te (own.map (·.2)) σ H (fun x H1 => gName i x σ H1 D.nx) := w
  refine wpAny_bind (thn (core (Qf := fun _ s' => SP X pins D .next s') hot hq hN I hi ok hg ht he hs w' fun A C s' m H' J qq hn f => ?_) fun _ s' z => wpAny_pure (wpAny_pure z))
  show wpAny _ _ (assign (.Name y py) X.env (.ref A)) _ _ _
  refine wpAny_assign_Name (store_ok2 (v := V.ref A) J hN hy (.inl hyl) rfl (fun s2 J2 z2 => ?_) (.inr hyl))
  obtain ⟨a, sb, ha⟩ := z2
  obtain ⟨f0, f1, f2, f3, f4, f5⟩ := f
  have ne : C ≠ a := ha.elim (fun z => z ▸ f1) fun z e => f4 y a z e.symm
  exact ⟨m, hn.sameBut sb ne, fun h3 sb3 => ⟨_, H', J2.turned (t' := s2.toks) (fun b o hb e => (sb3.2 b hb).trans e) f0 f1 f3 f4 f5, qq⟩⟩
end
end HotLc
namespace Hap
open PySem PySem.Spec PyProof.Rows L2
variable [TabC]
def excN : List Str := ["NoHouse", "NoRow", "NoMachine", "NoRoom", "NoHand", "Unlike", "NoPast", "TooMany", "Torn", "NoTable", "NoSet", "Falls", "Whole", "NoText", "NoWord"]
abbrev bmV : List Value := [.type "ValueError", .type "Exception", .type "BaseException", .type "object"]
/-- what the written part says of a class of refusals at C, right under the one at CH -/
structure EC (K : PySem.W.Frag) (CH C : Addr) : Prop where
  cl : ∃ cd, PySem.W.clsIn K C = some cd ∧ cd.mro = .ref C :: .ref CH :: bmV
  ty : PySem.W.typeIn K (.ref C) = some (.type "type")
  kp : PySem.W.keepIn K (.ref C) = true
  ga : PySem.W.findIn K (.ref C) "__getattribute__" = some (some (.builtin "BaseException.__getattribute__"))
  gt : PySem.W.findIn K (.ref C) "__getattr__" = some none
  ca : PySem.W.findIn K (.ref C) "__class__" = some (some (.builtin "object.__class__"))
structure ETab (K : PySem.W.Frag) (mg : Str → Option Value) (CH : Addr) (cs : List Addr) : Prop where
  len : cs.length = 15
  g : ∀ (i : Nat) (C : Addr) (n : Str), cs[i]? = some C → excN[i]? = some n → mg n = some (.ref C)
  ent : ∀ C ∈ cs, EC K CH C
  nd : (CH :: cs).Nodup
  gH : mg "HandError" = some (.ref CH)
  clH : ∃ cd, PySem.W.clsIn K CH = some cd ∧ cd.mro = .ref CH :: bmV
  tyH : PySem.W.typeIn K (.ref CH) = some (.type "type")
  nn : PySem.W.specialIn K (.builtin "object.__class__") "__get__" = some (some (.builtin "getset_descriptor.__get__"))
  tk : PySem.W.takesIn K (.builtin "object.__class__") = some true
section
variable {K : PySem.W.Frag} {mg : Str → Option Value} {CH C C' : Addr} {cs : List Addr} {i j : Nat}
omit [TabC] in
theorem EC.sub (c : EC K CH C) (v : Value) : PySem.W.subIn K (.ref C) v = some ((Value.ref C :: .ref CH :: bmV).contains v) := by
  obtain ⟨cd, e, m⟩ := c.cl
  show PySem.W.mroIn K C v = _
  unfold PySem.W.mroIn
  rw [e, Option.bind_some, m]; rfl
theorem EC.raises {X : Cx} (c : EC X.K CH C) : Raises X (.ref C) := raises_own ((c.sub _).trans (by simp)) c.ty
omit [TabC] in
theorem ETab.ne (T : ETab K mg CH cs) (hi : cs[i]? = some C) (hj : cs[j]? = some C') : (C = C') = (i = j) := by
  have nd := (List.nodup_cons.mp T.nd).2
  have hi' := (List.getElem?_eq_some_iff.mp hi)
  obtain ⟨li, ei⟩ := hi'
  obtain ⟨lj, ej⟩ := List.getElem?_eq_some_iff.mp hj
  rw [← ei, ← ej, eq_iff_iff]
  constructor
  · intro e
    have h1 : cs[i]? = some C' := by rw [hi, ← ei, e, ej]
    by_cases z : i = j
    · exact z
    · exfalso
      have := List.pairwise_iff_getElem.mp nd
      rcases Nat.lt_or_gt_of_ne z with l | l
      · exact this i j li lj l e
      · exact this j i lj li l e.symm
  · intro e; subst e; rfl
omit [TabC] in
theorem ETab.neH (T : ETab K mg CH cs) (hi : cs[i]? = some C) : C ≠ CH := fun e => (List.nodup_cons.mp T.nd).1 (e ▸ List.mem_of_getElem? hi)
theorem ETab.kit (T : ETab K mg CH cs) (hi : cs[i]? = some C) (hj : cs[j]? = some C') : PySem.W.kitOne K (.ref C) (.ref C') = some (decide (i = j)) := by
  have ne := T.ne hi hj
  have c := T.ent C (List.mem_of_getElem? hi)
  have c' := T.ent C' (List.mem_of_getElem? hj)
  unfold PySem.W.kitOne
  by_cases e : i = j
  · have e' : C = C' := by rw [ne]; exact e
    rw [if_pos (by rw [e']; simp), decide_eq_true e]
  · have e' : ¬ C = C' := by rw [ne]; exact e
    rw [if_neg (by simpa using e'), decide_eq_false e]
    obtain ⟨cd, q, _⟩ := c'.cl
    show (if ((PySem.W.clsIn K C').isSome && PySem.W.typeIn K (.ref C') == some (.type "type")) = true then PySem.W.subIn K (.ref C) (.ref C') else none) = _
    rw [if_pos (by rw [q, c'.ty]; rfl), c.sub]
    have n1 : (C' = C) = False := eq_false fun z => e' z.symm
    have n2 := T.neH hj
    simp [n1, n2]
theorem ETab.kitV (T : ETab K mg CH cs) (hi : cs[i]? = some C) : PySem.W.kitOne K (.ref C) (.type "ValueError") = some true := by
  have c := T.ent C (List.mem_of_getElem? hi)
  unfold PySem.W.kitOne
  rw [if_neg (by simp)]
  show (if PySem.W.kitMeta "ValueError" = true then PySem.W.subIn K (.ref C) (.type "ValueError") else none) = _
  rw [if_pos (by decide +kernel), c.sub]; simp
theorem ETab.exmH (T : ETab K mg CH cs) (hi : cs[i]? = some C) : PySem.W.exmOne K (.ref C) (.ref CH) = some true := by
  have c := T.ent C (List.mem_of_getElem? hi)
  obtain ⟨cd, q, m⟩ := T.clH
  have sH : PySem.W.subIn K (.ref CH) (.type "BaseException") = some true := by
    show PySem.W.mroIn K CH _ = _
    unfold PySem.W.mroIn
    rw [q, Option.bind_some, m]; simp
  unfold PySem.W.exmOne
  rw [if_pos (by rw [sH]; rfl)]
  show (if ((PySem.W.clsIn K CH).isSome && PySem.W.typeIn K (.ref CH) == some (.type "type")) = true then PySem.W.subIn K (.ref C) (.ref CH) else none) = _
  rw [if_pos (by rw [q, T.tyH]; rfl), c.sub]; simp
end
/-- the fields of a refusal -/
def fldN (n : Str) : List Str := if n = "Torn" then ["row", "place"] else if n = "Falls" then ["row"] else []
/-- a refusal at the heap -/
def RXP (cs : List Addr) : RXR := fun x P H cls dx => ∃ (i : Nat) (C : Addr), cs[i]? = some C ∧ excN[i]? = some x.cls ∧ cls = .ref C ∧
  ((x.args = [] ∧ dx = none) ∨ ∃ d, dx = some d ∧ P d ∧ H d = some (.xd ((fldN x.cls).zip (x.args.map toV))) ∧ x.args.all flatD = true ∧ x.args ≠ [])
def fRaise (n : Str) : Ev → RS := fun ρ => .exc ⟨n, []⟩ ρ
section
variable {X : Cx} {W : WX} {kp : List Nat} {CH C : Addr} {cs : List Addr} {i : Nat} {x m : Str} {j : Nat} {p p2 p3 pos : Pos}
theorem ds_raise (T : ETab X.K X.mg CH cs) (hx : PySem.W.excIn X.K C bmV "ValueError.__new__" = true) (hi : cs[i]? = some C) (hn : excN[i]? = some x) (hc : X.calm = true) (tk : L2N.Takes X W) (hg : Gl X x) (hdb : (x == ("__debug__" : Str)) = false := by decide) :
    DS X (RXP cs) W kp (.Raise (some (.Call (.Name x p) [.Constant (.str m) j p2] [] p3)) none pos) (fRaise x) := by
  have c := T.ent C (List.mem_of_getElem? hi)
  refine ps_imp (L2N.ps_raise hc tk (L2N.pmk_own PySem.F.excBase_ValueError hx (T.g i C x hi hn) c.kp c.raises hg hdb)) fun D σ H q => ?_
  obtain ⟨P, ρ, FE, S, q⟩ := q
  exact q (.ref C) none σ P H FE S Tr.refl Kp.refl ⟨i, C, hi, hn, rfl, .inl ⟨rfl, rfl⟩⟩
end
structure FnHp (P : Program) (w : World) (K : PySem.W.Frag) (mg : Str → Option Value) (base : Heap) (CX : CXT) (k : Nat) (f : Addr) (fd : FuncData) (ps : List Str) (sp : Addr × Obj → Sp) : Prop where
  len : ∀ p vs H Q E, sp p vs H Q E → vs.length = ps.length
  run : ∀ (A : Around) (outer : List Env) (s : Shared) (H : Hp) (args : Args) (us : List Value) (vs : List V) (Q : VK) (E : XK) (p : Addr × Obj), L2H.RoomH k A → L2H.Hot1 A p → L2H.PinOk outer H s p → Env0 P w K mg base A outer s H → BindsTo s fd args (ps.zip us) → Vals vs us → sp p vs H Q E →
    codeAny (model P w) A (.call (.ref f) args) (CR CX outer P w H s Q E) s
omit [TabC] in
theorem fnHp_of {CX : CXT} {P : Program} {w : World} {K : PySem.W.Frag} {mg : Str → Option Value} {base : Heap} {k : Nat} {x qual : Str} {st : Stmt} {f : Addr} {fd : FuncData} {N ps : List Str} {sp : Addr × Obj → Sp} (F : Fun K x qual st f fd) (S : FnScope N ps (defScope st))
    (len : ∀ p vs H Q E, sp p vs H Q E → vs.length = ps.length)
    (body : ∀ (cdv : Value) (A : Around) (outer : List Env) (s : Shared) (H : Hp) (vs : List V) (Q : VK) (E : XK) (p : Addr × Obj), L2H.Hot1 A p → L2H.RoomH k (A.deeper (envOfC qual (defScope st) s.heap.objs.size f cdv)) → sp p vs H Q E →
      ∃ t, PSs (L2H.cxH CX P w K mg base N qual (defScope st) f cdv A outer s H E p) (defBody st) t ∧ t { nx := fun _ H' => Q .non H', rt := Q } (L2.start N vs) H) :
    FnHp P w K mg base CX (k + 1) f fd ps sp := by
  obtain ⟨oc, od, kV, doc, pm, an, cdv, ct, osl, rfl, lk, hcd⟩ := F.ex
  refine ⟨len, fun A outer s H args us vs Q E p hr hot hpin e0 hb r hsp => ?_⟩
  have lv := len p _ _ _ _ hsp
  have kin : K.In s.heap := e0.mod.kin.keeps fun b o z => (e0.bs b o z).1
  have nol : s.heap.NoLimit := e0.mod.nolimit.keeps fun b o z => (e0.bs b o z).1
  have kinds : ∀ y ∈ ps.zip us, (defScope st).names.lookup y.1 = some .local ∨ ((defScope st).names.lookup y.1 = some .cell ∧ ((cellsFrom (s.heap.objs.size + 1) (defScope st).names []).lookup y.1).isSome = true) := by
    rintro ⟨y, u⟩ hy
    exact (S.par y (List.of_mem_zip hy).1).imp id fun z => ⟨z, PySem.W.cellsFrom_some _ _ _ (.inl z)⟩
  refine codeAny_call_function hr.depth (kin _ _ lk) rfl S.co S.gen rfl (PySem.W.codeRec_of kin hcd) (hb _ _ _ _ (wpAny_newFunctionEnv_cells S.kind kinds fun env he s1 x => ?_))
  cases he
  refine ⟨nol.keeps x.toInCall.keep, codeAny_func ?_⟩
  obtain ⟨t, ht, hq⟩ := body cdv A outer s H vs Q E p hot (hr.deeper _) hsp
  have J := L2H.inv_startH (CX := CX) (E := E) S hpin e0 lv r x
  refine wpAny_mono (ht.run [] s1 (L2.start N vs) H _ J hq) (fun fl s2 z => ?_) fun _ _ z => z
  have out : ∀ {σ2 : L2.St} {H2 : Hp} {v : V} {u : Value}, Inv (L2H.cxH CX P w K mg base N qual (defScope st) f cdv A outer s H E p) [] σ2 H2 s2 → L2.RelV v u → Q v H2 → CE outer P w H s Q u s2 :=
    fun {σ2 H2 v u} J2 rv z => ⟨v, H2, J2.os, J2.bare, J2.base, J2.hok, rv, z⟩
  cases fl with
  | next => obtain ⟨σ2, H2, J2, z⟩ := z; exact out (v := V.non) (u := Value.none) J2 rfl z
  | ret u => obtain ⟨v, σ2, H2, J2, rv, z⟩ := z; exact out J2 rv z
  | brk => obtain ⟨_, _, _, z⟩ := z; exact False.elim z
  | cont => obtain ⟨_, _, _, z⟩ := z; exact False.elim z
section
variable {X : Cx} {k : Nat} {f : Addr} {fd : FuncData} {ps : List Str} {sp : Addr × Obj → Sp} {x : Str} {q pos : Pos} {e : Expr} {es : List Expr} {t : TA} {p : Addr × Obj}
omit [TabC] in
theorem pe_callHp (F : FnHp X.prog X.w X.K X.mg X.base (L2N.CX X.prog X.w) k f fd ps sp) (hr : L2H.RoomH k X.A) (hot : L2H.Hot1 X.A p) (hp : p ∈ X.pn) (hg : Gl X x) (hm : X.mg x = some (.ref f)) (hk : PySem.W.keepIn X.K (.ref f) = true) (hb : Binds X.K fd ps [])
    (ha : PA X (e :: es) t) (hdb : (x == ("__debug__" : Str)) = false := by decide) (he : starEach (e :: es) X.env = (false, eval e X.env) :: starEach es X.env := by rfl) (hpl : (backTo pos (starEach es X.env)).any (·.1) = false := by rfl) :
    PE X (.Call (.Name x q) (e :: es) [] pos) (fun σ H Q => t σ H fun vs H1 => sp p vs H1 Q fun _ _ _ => False) := by
  refine ⟨fun pins s σ H Q I h => wpAny_Call_Name_kw (ld_glob I hg hm ?_ hdb)⟩
  refine PySem.W.callWith_K (h₀ := X.base) I.ok.mod.kin hk (thn (ha.run pos pins s σ H _ I h) fun us s1 z1 => ?_) he hpl
  obtain ⟨vs, H1, I1, r, z1⟩ := z1
  refine ⟨I1.kIn, ?_⟩
  have lu : us.length = ps.length := by rw [← r.length]; exact F.len _ _ _ _ _ z1
  have b := hb s1 us I1.kIn (by rw [List.append_nil]; exact lu)
  rw [List.append_nil] at b
  have P1 := I1.pin p (List.mem_append_left _ hp)
  have ok : L2H.PinOk X.stack H1 s1 p := ⟨P1.1, P1.2.1, fun z => (List.mem_cons.mp (I1.stkSub p.1 z)).elim P1.2.2.1 P1.2.2.2.1, P1.2.2.2.2⟩
  refine wpAny_call (codeAny_mono (F.run X.A X.stack s1 H1 ⟨us, []⟩ us vs Q (fun _ _ _ => False) p hr hot ok I1.env0 b r z1) fun r s2 z2 => ?_)
  match r, z2 with
  | .error e, z2 =>
    obtain ⟨_, _, _, _, _, _, _, _, _, _, _, _, z2⟩ := z2
    exact z2.elim
  | .ok (.ret u), z2 => exact I1.after z2
  | .ok .next, z2 => exact False.elim z2
  | .ok .brk, z2 => exact False.elim z2
  | .ok .cont, z2 => exact False.elim z2
end
end Hap
namespace Hap
open PySem PySem.Spec PyProof.Rows L2
variable [TabC]
def vIsE (i : Nat) (a : Addr) (b : Bool) : Ev → Option D := fun ρ => match ρ[i]? with
  | some (some (.gv (.ref a'))) => if a' = a then some (.bl b) else none
  | _ => none
def rIsE' (K : PySem.W.Frag) (D a : Addr) : List V → Hp → VK → Prop := fun xs H Q => ∃ (c : V) (cv : Value) (b : Bool), xs = [.ref a, c] ∧ (∀ u, RelV c u → u = cv) ∧ PySem.W.kitOne K (.ref D) cv = some b ∧ Q (.bl b) H
section
variable {X : Cx} {a CH D : Addr} {oe : Obj} {cs : List Addr} {i : Nat} {b : Bool}
omit [TabC] in
theorem call_isE' (T : ETab X.K X.mg CH cs) (c : EC X.K CH D) (hp : (a, oe) ∈ X.pn) (hc : oe.cls = .ref D) (hd : oe.dict = none) (hf : ∃ vs, oe.data = .fields vs) : CallR X (.builtin "isinstance") (rIsE' X.K D a) := by
  intro pins s σ H xs us Q I r h
  obtain ⟨k, cv, b, rfl, hcv, e, q⟩ := h
  cases r with
  | cons rx rr =>
    cases rr with
    | cons rt rr =>
      cases rr
      cases rx
      have ec := hcv _ rt
      subst ec
      have at_ := (I.pin (a, oe) (List.mem_append_left _ hp)).1
      have J : PySem.W.InstAt s.heap a oe D none := ⟨at_, hc, by obtain ⟨vs, e⟩ := hf; unfold PySem.W.notCls; rw [e], by rw [hd]; trivial⟩
      obtain ⟨cd, e1, _⟩ := c.cl
      refine PySem.W.kia_one (PySem.W.kitx_exc (by rw [e1]; rfl) c.ga c.gt ((c.sub _).trans (by simp)) c.ca T.nn T.tk ((c.sub _).trans (by simp))) I.kIn J e (fun z => nomatch z) fun tk => ?_
      exact ⟨.bl b, H, I.kept (t' := tk) fun _ _ z => z, rfl, q⟩
theorem dv_isE {e1 e2 : Expr} {cv : Value} {k : V} {p pos : Pos} (T : ETab X.K X.mg CH cs) (c : EC X.K CH D) (hp : (a, oe) ∈ X.pn) (hc : oe.cls = .ref D) (hd : oe.dict = none) (hf : ∃ vs, oe.data = .fields vs) (hk : PySem.W.kitOne X.K (.ref D) cv = some b)
    (hg : Gl X "isinstance") (hm : X.mg "isinstance" = none) (h1 : PE X e1 (tVar i)) (h2 : PE X e2 (tC k)) (hr : ∀ u, RelV k u → u = cv)
    (he : starEach [e1, e2] X.env = (false, eval e1 X.env) :: starEach [e2] X.env := by rfl) (he2 : starEach [e2] X.env = (false, eval e2 X.env) :: starEach [] X.env := by rfl) (hpl : (backTo pos (starEach [e2] X.env)).any (·.1) = false := by rfl) :
    DV X (.Call (.Name "isinstance" p) [e1, e2] [] pos) (vIsE i a b) := by
  refine pe_imp (pe_callB (call_isE' T c hp hc hd hf) hg hm boot_isinstance (pa_cons h1 (pa_cons h2 pa_nil he2) he) (by decide) (by decide) he hpl) fun σ H Q q => ?_
  obtain ⟨P, ρ, FE, S, q⟩ := q
  unfold vIsE at q
  cases e : ρ[i]? with
  | none => simp only [e] at q
  | some o =>
    cases o with
    | none => simp only [e] at q
    | some d =>
      cases d with
      | gv v =>
        cases v with
        | ref a' =>
          simp only [e] at q
          by_cases z : a' = a
          · subst z
            simp only [if_pos] at q
            obtain ⟨v, ev, r⟩ := S.rel i _ e
            cases r
            exact ⟨_, ev, k, cv, b, rfl, hr, hk, q _ P H New.refl .bl⟩
          · simp only [if_neg z] at q
        | _ => simp only [e] at q
      | _ => simp only [e] at q
end
abbrev DIH (X : Cx) (RX : RXR) (W : WX) (tg e : Expr) (f : Ev → R (List D)) : Prop := L2H.PIH X tg e (tI X.K RX W f)
theorem dih_range1 {X : Cx} {RX : RXR} {W : WX} {tg a : Expr} {f : Ev → R (List D)} {p pos : Pos} (hg : Gl X "range") (hm : X.mg "range" = none) (ha : DA X RX W [a] f) (hs : starEach [a] X.env = [(false, eval a X.env)] := by rfl) : DIH X RX W tg (.Call (.Name "range" p) [a] [] pos) (fItN rng1 f) := by
  refine ⟨fun pins s σ H R I q => (L2H.pi_range1H hg hm ha hs).run pins s σ H R I ?_⟩
  exact a_it (C := fun vs H1 => ∃ j, vs = [.int j] ∧ -(2 ^ 62) ≤ j ∧ j < 2 ^ 62 ∧ R (Itr 0 j.toNat) H1) q fun P H1 ρ FE vs ds F ds' S T g k => by
    obtain ⟨j, rfl, h1, h2, rfl⟩ := rng1_ok g
    obtain ⟨v, rfl, r⟩ := rls1 T.rl
    cases r
    exact ⟨j, rfl, h1, h2, k _ walks_range⟩
theorem ds_setLcH {X : Cx} {RX : RXR} {W : WX} {s : Stmt} {n : Nat} {i : Ev → R (List D)} {t : D → Ev → Option Ev} {c : Ev → R Bool} {f : Ev → R D} {kp kpo vs : List Nat} (hkp : kp = (List.range X.N.length).filter fun j => decide (j ∉ vs))
    (h : PS X s (tAsg (tLc (tI X.K RX W i) (tG X.K kp t) (tT X.K RX (fun _ _ _ _ => False) c) (tE X.K RX (fun _ _ _ _ => False) f) vs) (gName n))) (hk : n ∉ kpo) : DS X RX W kpo s (fAsg (fLc i t c f vs) (gN n)) :=
  ds_set ⟨fun pins s σ H D I q => h.run pins s σ H D I (lc_ok hkp I.len q)⟩ hk
/-- all stands as it did, more may stand beside -/
def Up (H H' : Hp) : Prop := (∀ b o, H b = some o → NT o → H' b = some o) ∧ (∀ b, H b ≠ none → H' b ≠ none) ∧ LamX.Tabs TabC.T H'
def spW (cs : List Addr) : Addr × Obj → Sp := fun p vs H Q _ => vs = [.ref p.1] ∧ LamX.Tabs TabC.T H ∧ p.2.dict = none ∧ ∃ (i : Nat) (C : Addr) (n : Str), cs[i]? = some C ∧ excN[i]? = some n ∧ p.2.cls = .ref C ∧ ∀ H', Up H H' → Q (.str n) H'
/-- the def's body told by data: what it makes of an exception at a of the class of number i -/
theorem fnHp_word {P : Program} {w : World} {K : PySem.W.Frag} {mg : Str → Option Value} {base : Heap} {k n : Nat} {x qual : Str} {st : Stmt} {f : Addr} {fd : FuncData} {N ps : List Str} {cs : List Addr} {g : Addr → Nat → Ev → RS} (F : Fun K x qual st f fd) (S : FnScope N ps (defScope st)) (hl : ps.length = 1) (hn : N.length = n)
    (body : ∀ (cdv : Value) (A : Around) (outer : List Env) (s : Shared) (H : Hp) (E : XK) (p : Addr × Obj) (i : Nat) (C : Addr), cs[i]? = some C → p.2.cls = .ref C → p.2.dict = none → L2H.Hot1 A p → L2H.RoomH k (A.deeper (envOfC qual (defScope st) s.heap.objs.size f cdv)) →
      DSs (L2H.cxH (L2N.CX P w) P w K mg base N qual (defScope st) f cdv A outer s H E p) RX0 (fun _ _ _ _ => False) [] (defBody st) (g p.1 i))
    (sem : ∀ (a : Addr) (i : Nat) (nm : Str), excN[i]? = some nm → ∃ ρ', g a i (some (.gv (.ref a)) :: List.replicate (n - 1) none) = .rt (.str nm) ρ') :
    FnHp P w K mg base (L2N.CX P w) (k + 1) f fd ps (spW cs) := by
  refine fnHp_of F S (fun p vs H Q E h => by rw [h.1, hl]; rfl) fun cdv A outer s H vs Q E p hot hr h => ?_
  obtain ⟨rfl, tb, hd, i, C, nm, hi, hnm, hc, q⟩ := h
  refine ⟨_, body cdv A outer s H E p i C hi hc hd hot hr, ?_⟩
  obtain ⟨ρ', e⟩ := sem p.1 i nm hnm
  refine ⟨fun b => H b ≠ none, some (.gv (.ref p.1)) :: List.replicate (n - 1) none, fun _ => E_, ⟨fun b z => z, fun j b z => z.elim, fun j j' b z => z.elim, fun j d ej => ?_, ?_, tb⟩, ?_⟩
  · match j, ej with
    | 0, ej =>
      cases ej
      have : 0 < N.length := by
        have := congrArg List.length S.pre
        rw [List.length_take] at this
        omega
      exact ⟨.ref p.1, rfl, .gv⟩
    | j + 1, ej =>
      simp only [List.getElem?_cons_succ, List.getElem?_replicate] at ej
      split at ej <;> cases ej
  · unfold L2.start
    simp only [List.length_cons, List.length_replicate, List.length_append, List.length_map, List.length_nil]
    omega
  · rw [e]
    intro v σ' P' H' FE' F' S' T' t k'
    cases T'.rl
    exact q H' ⟨fun b o eb => t.frame b o eb fun ⟨_, z⟩ => z, t.alive, S'.tab⟩
end Hap
namespace Hap
open PySem PySem.Spec PyProof.Rows L2
variable [TabC]
/-- what the suite does with an exception at a: it is at slot i; it gives back the datum that its name has -/
def tsW (K : PySem.W.Frag) (cs : List Addr) (i : Nat) (res : Str → D) : Addr → Value → Option Addr → TS := fun a cls d D σ H =>
  σ[i]? = some (some (.ref a)) ∧ LamX.Tabs TabC.T H ∧ d = none ∧ ∃ (j : Nat) (C : Addr) (nm : Str), cs[j]? = some C ∧ excN[j]? = some nm ∧ cls = .ref C ∧
    ∃ P : AS, (∀ b, P b → H b ≠ none) ∧ ∀ v P' H', New P H P' H' E_ → Rl true K P' H' (res nm) v E_ → D.rt v H'
section
variable {X : Cx} {CH : Addr} {cs : List Addr} {i k : Nat} {x : Str} {f : Addr} {fd : FuncData} {ps : List Str} {a : Addr} {oe : Obj} {cls : Value} {d : Option Addr} {pn : List (Addr × Obj)}
omit [TabC] in
theorem hot_of (h : L2N.Zn cls d oe) (hv : ∃ vs, oe.data = .fields vs) : L2H.Hot1 (X.suite a ((a, oe) :: pn)).A (a, oe) := by
  obtain ⟨vs, e⟩ := hv
  exact ⟨rfl, vs, e, h.2.2 vs e⟩
/-- the word of the exception -/
theorem pe_word {ee : Expr} {q pos : Pos} (F : FnHp X.prog X.w X.K X.mg X.base (L2N.CX X.prog X.w) k f fd ps (spW cs)) (hr : Room k X.A) (hz : L2N.Zn cls d oe) (hv : ∃ vs, oe.data = .fields vs) (hg : Gl X x) (hm : X.mg x = some (.ref f)) (hk : PySem.W.keepIn X.K (.ref f) = true) (hb : Binds X.K fd ps [])
    (he : PE (X.suite a ((a, oe) :: pn)) ee (tVar i)) (hdb : (x == ("__debug__" : Str)) = false := by decide) (hs : starEach [ee] X.env = (false, eval ee X.env) :: starEach [] X.env := by rfl) (hpl : (backTo pos (starEach [] X.env)).any (·.1) = false := by rfl) :
    PE (X.suite a ((a, oe) :: pn)) (.Call (.Name x q) [ee] [] pos) (fun σ H Q => σ[i]? = some (some (.ref a)) ∧ LamX.Tabs TabC.T H ∧ d = none ∧ ∃ (j : Nat) (C : Addr) (nm : Str), cs[j]? = some C ∧ excN[j]? = some nm ∧ cls = .ref C ∧ ∀ H', Up H H' → Q (.str nm) H') := by
  have c := pe_callHp (X := X.suite a ((a, oe) :: pn)) (p := (a, oe)) (q := q) (pos := pos) F ⟨hr.dp, hr.un⟩ (hot_of hz hv) List.mem_cons_self hg hm hk hb (pa_cons he pa_nil hs) hdb hs hpl
  refine pe_imp c fun σ H Q h => ?_
  obtain ⟨h1, h2, h3, j, C, nm, h4, h5, h6, h7⟩ := h
  exact ⟨_, h1, rfl, h2, hz.2.1.trans h3, j, C, nm, h4, h5, hz.1.trans h6, h7⟩
structure CalH (P : Program) (w : World) (K : PySem.W.Frag) (mg : Str → Option Value) (base : Heap) (cs : List Addr) (x : Str) (k : Nat) : Prop where
  ex : ∃ f fd ps, FnHp P w K mg base (L2N.CX P w) k f fd ps (spW cs) ∧ mg x = some (.ref f) ∧ PySem.W.keepIn K (.ref f) = true ∧ Binds K fd ps []
omit [TabC] in
theorem FnHp.mono {P : Program} {w : World} {K : PySem.W.Frag} {mg : Str → Option Value} {base : Heap} {CX : CXT} {j k : Nat} {f : Addr} {fd : FuncData} {ps : List Str} {sp : Addr × Obj → Sp} (F : FnHp P w K mg base CX j f fd ps sp) (h : j ≤ k) : FnHp P w K mg base CX k f fd ps sp :=
  ⟨F.len, fun A outer s H args us vs Q E p hr => F.run A outer s H args us vs Q E p (hr.mono h)⟩
theorem pe_wordC {ee : Expr} {q pos : Pos} {j0 : Nat} (C : CalH X.prog X.w X.K X.mg X.base cs x j0) (hr : Room k X.A) (hj : j0 ≤ k) (hz : L2N.Zn cls d oe) (hv : ∃ vs, oe.data = .fields vs) (hg : Gl X x)
    (he : PE (X.suite a ((a, oe) :: pn)) ee (tVar i)) (hdb : (x == ("__debug__" : Str)) = false := by decide) (hs : starEach [ee] X.env = (false, eval ee X.env) :: starEach [] X.env := by rfl) (hpl : (backTo pos (starEach [] X.env)).any (·.1) = false := by rfl) :
    PE (X.suite a ((a, oe) :: pn)) (.Call (.Name x q) [ee] [] pos) (fun σ H Q => σ[i]? = some (some (.ref a)) ∧ LamX.Tabs TabC.T H ∧ d = none ∧ ∃ (j : Nat) (C : Addr) (nm : Str), cs[j]? = some C ∧ excN[j]? = some nm ∧ cls = .ref C ∧ ∀ H', Up H H' → Q (.str nm) H') := by
  obtain ⟨f, fd, ps, F, hm, hk, hb⟩ := C.ex
  exact pe_word F (hr.mono hj) hz hv hg hm hk hb he hdb hs hpl
theorem Up.new {P : AS} {H H' : Hp} (u : Up H H') : New P H P H' E_ := ⟨u.1, u.2.1, fun _ => u.2.2, fun _ z => z, fun _ z => .inl z, fun _ z => z.elim⟩
/-- return ("..", word(e)) -/
theorem su_pair {e : Expr} {t : Str} {j' k' : Nat} {p pos pos2 : Pos} (he : PE (X.suite a ((a, oe) :: pn)) e (fun σ H Q => σ[i]? = some (some (.ref a)) ∧ LamX.Tabs TabC.T H ∧ d = none ∧ ∃ (j : Nat) (C : Addr) (nm : Str), cs[j]? = some C ∧ excN[j]? = some nm ∧ cls = .ref C ∧ ∀ H', Up H H' → Q (.str nm) H'))
    (hs : starEach [Expr.Constant (.str t) j' p, e] X.env = (false, eval (.Constant (.str t) j' p) X.env) :: starEach [e] X.env := by rfl) (hs2 : starEach [e] X.env = (false, eval e X.env) :: starEach [] X.env := by rfl) :
    PSs (X.suite a ((a, oe) :: pn)) [.Return (some (.Tuple [.Constant (.str t) j' p, e] k' pos)) pos2] (tsW X.K cs i (fun nm => .tup [.str t, .str nm]) a cls d) := by
  refine pss_imp (pss_one (ps_ret (pe_tup (pa_cons pe_str (pa_cons he pa_nil hs2) hs)))) fun D σ H h => ?_
  obtain ⟨h1, h2, h3, j, C, nm, h4, h5, h6, P, h7, h8⟩ := h
  refine ⟨h1, h2, h3, j, C, nm, h4, h5, h6, fun H' u => ⟨by show 2 ≤ sizeLine; decide, fun p hp => ?_⟩⟩
  refine h8 (.ref p) _ _ (u.new.trans_ (New.tup hp)) (.tup upd_same (.inr rfl) ?_)
  exact .cons (F1 := E_) (F2 := E_) .str (.cons (F1 := E_) (F2 := E_) .str .nil (fun _ z => z) (fun _ z => z) fun _ z => z.elim) (fun _ z => z) (fun _ z => z) fun _ z => z.elim
end
end Hap
namespace Hap
open PySem PySem.Spec PyProof.Rows L2
variable [TabC]
def b_word (a : Addr) (i : Nat) : Ev → RS :=
  (fSeq (fAsg (fLst (fCons (fI (vIsE 0 a (decide (i = 0)))) (fCons (fI (vIsE 0 a (decide (i = 1)))) (fCons (fI (vIsE 0 a (decide (i = 2)))) (fCons (fI (vIsE 0 a (decide (i = 3)))) fNil))))) (gN 1))
    (fSeq (fAsg (fOp2V gAdd (fVar 1) (vLst (vCons (vIsE 0 a (decide (i = 4))) (vCons (vIsE 0 a (decide (i = 5))) (vCons (vIsE 0 a (decide (i = 6))) (vCons (vIsE 0 a (decide (i = 7))) vNil)))))) (gN 1))
    (fSeq (fAsg (fOp2V gAdd (fVar 1) (vLst (vCons (vIsE 0 a (decide (i = 8))) (vCons (vIsE 0 a (decide (i = 9))) (vCons (vIsE 0 a (decide (i = 10))) (vCons (vIsE 0 a (decide (i = 11))) vNil)))))) (gN 1))
    (fSeq (fAsg (fOp2V gAdd (fVar 1) (vLst (vCons (vIsE 0 a (decide (i = 12))) (vCons (vIsE 0 a (decide (i = 13))) (vCons (vIsE 0 a (decide (i = 14))) vNil))))) (gN 1))
    (fSeq (fAsg (fLst (fCons (fK (.str "NoHouse")) (fCons (fK (.str "NoRow")) (fCons (fK (.str "NoMachine")) (fCons (fK (.str "NoRoom")) (fCons (fK (.str "NoHand")) (fCons (fK (.str "Unlike")) (fCons (fK (.str "NoPast")) (fCons (fK (.str "TooMany")) (fCons (fK (.str "Torn")) (fCons (fK (.str "NoTable")) fNil))))))))))) (gN 2))
    (fSeq (fAsg (fOp2V gAdd (fVar 2) (vLst (vCons (vK (.str "NoSet")) (vCons (vK (.str "Falls")) (vCons (vK (.str "Whole")) (vCons (vK (.str "NoText")) (vCons (vK (.str "NoWord")) vNil))))))) (gN 2))
    (fSeq (fAsg (fLc (fItN rng1 (fCons (fK (.int 15)) fNil)) (gN 4) (fTv (vOp2 gIx (vVar 1) (vVar 4))) (fI (vOp2 gIx (vVar 2) (vVar 4))) [4]) (gN 3))
    (fSeq (fIf (fOr (fTv (vOp2 gNe (vOpN gLen (vCons (vVar 3) vNil)) (vK (.int 1)))) (fNot (fTv (vIsE 0 a true)))) (fRet (fK (.str "else"))) fNext)
    (fRet (fI (vOp2 gIx (vVar 3) (vK (.int 0)))))))))))))
omit [TabC] in
@[simp] theorem ap_isE {i : Nat} {a : Addr} {b : Bool} {ρ : Ev} (h : ρ[i]? = some (some (.gv (.ref a)))) : vIsE i a b ρ = some (.bl b) := by
  unfold vIsE; rw [h]; simp
omit [TabC] in
theorem word_lc (a : Addr) (i : Nat) (hi : i < 15) : (fLc (fItN rng1 (fCons (fK (.int 15)) fNil)) (gN 4) (fTv (vOp2 gIx (vVar 1) (vVar 4))) (fI (vOp2 gIx (vVar 2) (vVar 4))) [4]) [some (.gv (.ref a)), some (.lst true ((List.range 15).map fun k => .bl (decide (i = k)))), some (.lst true (excN.map D.str)), none, none]
    = .ok (.lst true [.str (excN.getD i "")]) [some (.gv (.ref a)), some (.lst true ((List.range 15).map fun k => .bl (decide (i = k)))), some (.lst true (excN.map D.str)), none, none] := by
  have hf : (List.range 15).filter (fun k => decide (i = k)) = [i] := (by decide : ∀ j : Fin 15, (List.range 15).filter (fun k => decide (j.1 = k)) = [j.1]) ⟨i, hi⟩
  have := lc_map (i := fItN rng1 (fCons (fK (.int 15)) fNil)) (t := gN 4) (c := fTv (vOp2 gIx (vVar 1) (vVar 4))) (f := fI (vOp2 gIx (vVar 2) (vVar 4))) (vs := [4]) (g := fun k : Nat => .int (k : Int)) (p := fun k => decide (i = k)) (e := fun k => D.str (excN.getD k "")) (xs := List.range 15)
    (ρ := [some (.gv (.ref a)), some (.lst true ((List.range 15).map fun k => .bl (decide (i = k)))), some (.lst true (excN.map D.str)), none, none]) (ρ1 := [some (.gv (.ref a)), some (.lst true ((List.range 15).map fun k => .bl (decide (i = k)))), some (.lst true (excN.map D.str)), none, none])
    (by have := rng1_n (n := 15) (by omega); simp only [ap_itN, ap_cons, ap_k, ap_nil, bind_ok]; rw [show (D.int 15) = D.int ((15 : Nat) : Int) from rfl, this]; rfl) rfl (by decide) (fun k hk => by
      have hk' := List.mem_range.mp hk
      have e1 : gIx (.lst true ((List.range 15).map fun k => .bl (decide (i = k)))) (.int (k : Int)) = some (.bl (decide (i = k))) := by
        rw [ix_l, at_nat, List.getElem?_map, List.getElem?_range hk']; rfl
      have e2 : gIx (.lst true (excN.map D.str)) (.int (k : Int)) = some (.str (excN.getD k "")) := by
        have hl : k < excN.length := hk'
        rw [ix_l, at_nat, List.getElem?_map, List.getElem?_eq_getElem hl, List.getD_eq_getElem?_getD, List.getElem?_eq_getElem hl]; rfl
      let ρ2 : Ev := [some (.gv (.ref a)), some (.lst true ((List.range 15).map fun k => .bl (decide (i = k)))), some (.lst true (excN.map D.str)), none, some (.int (k : Int))]
      refine ⟨ρ2, rfl, ρ2, ?_, fun _ => ⟨ρ2, ?_, rfl⟩, fun _ => rfl⟩
      · simp only [ap_tv, ap_v2, ap_vvar, ρ2, List.getElem?_cons_succ, List.getElem?_cons_zero, varV_s, Option.bind_some, e1, blV_s]
      · simp only [ap_I, ap_v2, ap_vvar, ρ2, List.getElem?_cons_succ, List.getElem?_cons_zero, varV_s, Option.bind_some, e2, immR_s, imm_str, if_true])
  rw [hf] at this
  exact this
theorem word_sem (a : Addr) (i : Nat) (nm : Str) (h : excN[i]? = some nm) : ∃ ρ', b_word a i (some (.gv (.ref a)) :: List.replicate (5 - 1) none) = .rt (.str nm) ρ' := by
  have hi : i < 15 := (List.getElem?_eq_some_iff.mp h).1
  have hs : 15 ≤ sizeLine := by decide
  have lc := word_lc a i hi
  rw [List.getD_eq_getElem?_getD, h] at lc
  simp only [show (List.range 15).map (fun k => D.bl (decide (i = k))) = [.bl (decide (i = 0)), .bl (decide (i = 1)), .bl (decide (i = 2)), .bl (decide (i = 3)), .bl (decide (i = 4)), .bl (decide (i = 5)), .bl (decide (i = 6)), .bl (decide (i = 7)), .bl (decide (i = 8)), .bl (decide (i = 9)), .bl (decide (i = 10)), .bl (decide (i = 11)), .bl (decide (i = 12)), .bl (decide (i = 13)), .bl (decide (i = 14))] from rfl, excN, List.map_cons, List.map_nil] at lc
  unfold b_word
  rw [Option.getD_some] at lc
  simp [sizeLine, lc, add_ll]
omit [TabC] in
theorem room64H {k : Nat} {A : Around} (r : L2H.RoomH k A) : A.units + 64 < cLine := by have := r.un; omega
omit [TabC] in
theorem room1H {k : Nat} {A : Around} (r : L2H.RoomH k A) : A.units + 1 < cLine := by have := r.un; omega
/-- the classes, and that those without an own __init__ are made with a text -/
structure ETx (K : PySem.W.Frag) (mg : Str → Option Value) (CH : Addr) (cs : List Addr) : Prop where
  tab : ETab K mg CH cs
  ex : ∀ i, i ≠ 8 → i ≠ 11 → ∀ C, cs[i]? = some C → PySem.W.excIn K C bmV "ValueError.__new__" = true
def spTop (K : PySem.W.Frag) (io : List Bool) (sem : Fn) : Sp := fun vs H Q E => ∀ RX : RXR, spD K RX io sem vs H Q E
theorem fnOk_top {P : Program} {w : World} {K : PySem.W.Frag} {mg : Str → Option Value} {base : Heap} {CX : CXT} {k : Nat} {f : Addr} {fd : FuncData} {ps : List Str} {RX : RXR} {io : List Bool} {sem : Fn} (F : FnOk P w K mg base CX k f fd ps (spD K RX io sem)) : FnOk P w K mg base CX k f fd ps (spTop K io sem) :=
  ⟨fun vs H Q E h => F.len vs H Q E (h RX), fun A outer s H args us vs Q E hr e0 hb r h => F.run A outer s H args us vs Q E hr e0 hb r (h RX)⟩
end Hap
namespace Hap
open PySem PySem.Spec PyProof.Rows L2
variable [TabC]
def fFz (f : Ev → R D) : Ev → R D := fun ρ => (f ρ).bind fun d ρ' => .ok (frz d) ρ'
section
variable {X : Cx} {RX : RXR} {W : WX} {e : Expr}
theorem de_fz {f : Ev → R D} (h : DE X RX W e f) : DE X RX W e (fFz f) := by
  refine pe_imp h fun σ H Q q => ?_
  obtain ⟨P, ρ, FE, S, q⟩ := q
  refine ⟨P, ρ, FE, S, ?_⟩
  unfold fFz at q
  cases e1 : f ρ with
  | exc x ρ1 => simp only [e1, R.bind] at q; exact q
  | stk => simp only [e1, R.bind] at q
  | ok d ρ1 =>
    simp only [e1, R.bind] at q
    intro v P1 H1 FE1 F1 S1 T1 t1
    exact q v (fun b => P1 b ∨ F1 b) H1 FE1 E_ (S1.give fun b z => ⟨(T1.own b z).1, (T1.own b z).2.2⟩) ⟨rl_frz T1.rl (fun b z => .inl z) (fun b z => .inr z), fun b z => z.elim⟩ (t1.give.less fun b z => z.elim id False.elim)
end
omit [TabC] in
@[simp] theorem ap_fz {f : Ev → R D} {ρ : Ev} : fFz f ρ = (f ρ).bind fun d ρ' => .ok (frz d) ρ' := (rfl)
end Hap
namespace Hap
open PySem PySem.Spec PyProof.Rows L2
section
variable {ρ : Ev} {d : D} {res : Str → D} {n : Str} {g : Ev → RS}
@[simp] theorem ap_raise : fRaise n ρ = .exc ⟨n, []⟩ ρ := (rfl)
end
theorem eqd_str : EqD D.str := fun x y => by
  simp only [toPy, PyData.eqv]; rfl
def StrOk (x : Str) : Prop := ∀ c ∈ x.cps.toList, c < 0x110000
theorem sh_strOk {x : Str} {n : Nat} (h : StrOk x) : Sh n (.str x) := sh_str h
end Hap
namespace Hap
open PySem PySem.Spec PyProof.Rows L2
variable [TabC]
omit [TabC] in
theorem un_deeper {fs : List Addr} {L : Addr} {Ha Hb Hc : Hp} {ha hb hc : Heap} (u : Un fs [] Ha Hb ha hb) (v : Un (L :: fs) [] Hb Hc hb hc) (nL : ha.get? L = none) : Un fs [] Ha Hc ha hc := by
  have ne : ∀ {b : Addr} {o : Obj}, ha.get? b = some o → b ≠ L := fun {b o} e z => by
    rw [z, nL] at e
    cases e
  have out : ∀ {b : Addr} {o : Obj}, ha.get? b = some o → b ∉ fs → b ∉ L :: fs := fun {b o} e n z => (List.mem_cons.mp z).elim (ne e) n
  constructor
  · exact fun b o e n h1 h2 => v.keep b o (u.keep b o e n h1 h2) (u.free b o e n h2) (out e h1) h2
  · intro b o e n h1 h2
    obtain ⟨s1, e1⟩ := u.slot b o e n h1 h2
    obtain ⟨s2, e2⟩ := v.slot b _ e1 (u.free b o e n h2) (List.mem_cons_of_mem _ h1) h2
    exact ⟨s2, e2⟩
  · intro b o e n h2
    obtain ⟨o1, e1⟩ := u.there b o e h2
    exact v.free b o1 e1 (u.free b o e n h2) h2
  · intro b o e h2
    obtain ⟨o1, e1⟩ := u.there b o e h2
    exact v.there b o1 e1 h2
  · exact fun b xs e => v.tups b xs (u.tups b xs e)
  · exact fun b o xs e => v.frzs b o xs (u.frzs b o xs e)
  · intro b ps e
    obtain ⟨m1, e1⟩ := u.tbls b ps e
    obtain ⟨m2, e2⟩ := v.tbls b _ e1
    exact ⟨m1 ++ m2, by rw [e2, Array.append_assoc]⟩
/-- a call of what stands at f, in any state behind the one of H0, h0, is as tl tells -/
structure Thk (P : Program) (w : World) (K : PySem.W.Frag) (mg : Str → Option Value) (base : Heap) (k : Nat) (f : Addr) (fs : List Addr) (H0 : Hp) (h0 : Heap) (c : Addr) (q : Str) (tl : XK → Hp → VK → Prop) : Prop where
  run : ∀ (A : Around) (outer : List Env) (s : Shared) (H : Hp) (Q : VK) (E : XK), Room k A → Env0 P w K mg base A outer s H → Un fs [] H0 H h0 s.heap → H c = some (LamX.CodeO c q) → tl E H Q →
    codeAny (model P w) A (.call (.ref f) ⟨[], []⟩) (CR (L2N.CX P w) outer P w H s Q E) s
  fn : ∀ (s : Shared) (H : Hp), Un fs [] H0 H h0 s.heap → PySem.W.FnAt f s.heap
section
variable {Z : Cx} {W : WX} {k i : Nat} {f c : Addr} {q a : Str} {fs : List Addr} {H0 : Hp} {h0 : Heap} {tl : XK → Hp → VK → Prop} {p1 p2 : Pos}
omit [TabC] in
theorem pe_thk (T : Thk Z.prog Z.w Z.K Z.mg Z.base k f fs H0 h0 c q tl) (hz : ∀ (H : Hp) (h : Heap), Un Z.fs Z.ex Z.H_0 H Z.s_0.heap h → Un fs [] H0 H h0 h) (hr : Room k Z.A) (tk : L2N.Takes Z W) (hv : PE Z (.Name a p1) (tVar i)) :
    PE Z (.Call (.Name a p1) [] [] p2) (fun σ H Q => σ[i]? = some (some (.ref f)) ∧ H c = some (LamX.CodeO c q) ∧ tl (fun cls d H' => W cls d σ H') H Q) := by
  refine ⟨fun pins s σ H Q I h => ?_⟩
  obtain ⟨h1, h2, h3⟩ := h
  refine wpAny_Call_Name_kw (thn (hv.run pins s σ H (fun v Hn => v = .ref f ∧ Hn = H) I ⟨_, h1, rfl, rfl⟩) fun u sn zn => ?_)
  obtain ⟨v, Hn, In, rn, ev, eH⟩ := zn
  subst ev eH
  cases rn
  have un := hz _ _ In.base
  refine PySem.W.callWith_F0 (T.fn sn Hn un) (wpAny_call (codeAny_mono (T.run Z.A Z.stack sn Hn Q (fun cls d H' => W cls d σ H') hr In.env0 un h2 h3) fun r s2 z => ?_))
  match r, z with
  | .error e, z => exact tk e s2 (L2N.XE.of_call In (fun _ _ _ w => w) z)
  | .ok (.ret u), z => exact In.after z
  | .ok .next, z => exact False.elim z
  | .ok .brk, z => exact False.elim z
  | .ok .cont, z => exact False.elim z
end
/-- the context of the lambda's body -/
def lamC (X : Cx) (A : Around) (outer : List Env) (s : Shared) (H : Hp) (E : XK) (scope : Scope) (f c : Addr) : Cx :=
  (LamX.lamCx X A outer s H E scope f c).tr [] fun e t => wpAny (model X.prog X.w) (A.deeper (LamX.lamEnv X scope s.heap.objs.size f c)) (leaving (LamX.lamEnv X scope s.heap.objs.size f c) e)
    (fun _ t' => L2N.CX X.prog X.w outer H s E e t') (fun e' t' => L2N.CX X.prog X.w outer H s E e' t') t
section
variable {X : Cx} {pins : List (Addr × Obj)} {σ : L2.St} {H : Hp} {s : Shared}
omit [TabC] in
theorem thk_lam {scope : Scope} {f c : Addr} {pm ctv : Value} {params : Arguments} {body : Expr} {k : Nat} {t : XK → TE} (I : Inv X pins σ H s) (L : LamX.LamS X.env.scope scope)
    (hf : s.heap.get? f = some (PySem.W.kla_obj "<lambda>" (X.env.qual ++ "<lambda>") params body scope (cloFrom X.env.cells scope.names []) pm c ctv)) (nf : H f = none) (nr : f ∉ frs X.stack)
    (hbind : bindArgs (PySem.W.kla_fn "<lambda>" (X.env.qual ++ "<lambda>") params body scope (cloFrom X.env.cells scope.names []) pm (.ref c) ctv) ⟨[], []⟩ = pure [])
    (hb : ∀ (A : Around) (outer : List Env) (s : Shared) (H : Hp) (E : XK), Room k (A.deeper (LamX.lamEnv X scope s.heap.objs.size f c)) → PE (lamC X A outer s H E scope f c) body (t E)) :
    Thk X.prog X.w X.K X.mg X.base (k + 1) f (frs X.stack) H s.heap c (X.env.qual ++ "<lambda>") (fun E H' Q' => t E σ H' Q') := by
  have at_ : ∀ {s1 : Shared} {H1 : Hp}, Un (frs X.stack) [] H H1 s.heap s1.heap → s1.heap.get? f = some (PySem.W.kla_obj "<lambda>" (X.env.qual ++ "<lambda>") params body scope (cloFrom X.env.cells scope.names []) pm c ctv) :=
    fun un => un.keep f _ hf nf nr (by simp)
  refine ⟨fun A outer s1 H1 Q E hr e0 un hc ht => ?_, fun s1 H1 un => ⟨_, _, _, _, at_ un⟩⟩
  obtain ⟨⟨oc, vs, tk, g1, g2, g3⟩, _, _⟩ := e0.hok c _ hc
  have lim : s1.heap.NoLimit := e0.mod.nolimit.keeps fun b o e => (e0.bs b o e).1
  refine PySem.W.kla_callFunE hr.depth (at_ un) rfl L.co L.gen rfl ⟨c, oc, vs, tk, rfl, g1, g2, g3⟩ ?_
  rw [hbind]
  refine wpAny_pure (wpAny_newFunctionEnv (fun y hy => (L.own y hy).2) (fun y hy => absurd hy (by simp)) (fun hN hns hsb => ?_) L.kind)
  refine ⟨lim.fresh _ hsb, ?_⟩
  have kp : ∀ b o, s1.heap.get? b = some o → hN.get? b = some o := fun b o e => hsb.extBut b o (Nat.ne_of_lt (Heap.lt_size e)) (Heap.get?_push_of_some _ e)
  have J0 := LamX.lam_start2 (E := E) (f := f) (c' := c) (tk := s1.toks + ([] : List (Str × Value)).length) I L e0 hr.hd un hns kp
  refine PySem.W.kla_codeExpr (wpAny_mono ((hb A outer s1 H1 E (hr.deeper _)).run [] _ _ H1 Q (J0.toTry (pins := []) _) ht) (fun v s2 z => ?_) fun e s2 z => z)
  obtain ⟨w2, H2, J2, r2, z2⟩ := z
  exact ⟨w2, H2, J2.os, J2.bare, J2.base, J2.hok, r2, z2⟩
/-- a lambda is made -/
theorem lam_mk {c P : Addr} {params : Arguments} {body : Expr} {scope : Scope} {pos : Pos} {E : Value → Shared → Prop} {Q : Value → Shared → Prop} (I : Inv X pins σ H s) (TB : LamX.TabB X.base X.mg c P) (hcode : X.env.code = .ref c)
    (hT : TabC.T = [(P, X.env.qual ++ "<lambda>")]) (tb : LamX.Tabs TabC.T H) (hdef : defaultsOf params X.env = ([], [])) (hfree : ∀ y ∈ scope.names, y.2 = .free → ∃ c, X.env.cells.lookup y.1 = some c)
    (fin : ∀ (f c' : Addr) (pm ctv : Value) (Hn : Hp) (sn : Shared), Inv X pins σ Hn sn → Up H Hn →
      sn.heap.get? f = some (PySem.W.kla_obj "<lambda>" (X.env.qual ++ "<lambda>") params body scope (cloFrom X.env.cells scope.names []) pm c' ctv) → Hn f = none → f ∉ frs X.stack → Hn c' = some (LamX.CodeO c' (X.env.qual ++ "<lambda>")) → Q (.ref f) sn) :
    wpAny (model X.prog X.w) X.A (eval (.Lambda params body scope pos) X.env) Q E s := by
  obtain ⟨tab, tP, tri, known⟩ := tb _ (by rw [hT]; exact List.mem_singleton.mpr rfl)
  have tP : H P = some (.tbl tab) := tP
  have hp : s.heap.get? P = some { cls := .none, data := .fields tab } := I.hok P _ tP
  have far : ∀ b, s.heap.objs.size ≤ b → b ∉ frs X.stack := fun b hb z => (List.mem_cons.mp (I.stkSub b z)).elim (fun e => Nat.lt_irrefl _ (Nat.lt_of_lt_of_le (e ▸ I.lt) hb)) (I.nofs hb)
  have cl := closure_ok hfree
  have gl := I.mod.glob.keeps I.bk
  have cd := TB.code.keeps I.bk
  have bm := TB.bm.keeps I.bk
  refine PySem.W.kla_eval hdef ?_
  cases e : codeAmong pos tab.toList with
  | some cv =>
    obtain ⟨c', ec, ho⟩ := known pos cv e
    subst ec
    exact PySem.W.kla_makeFunctionHit cl I.ok.glob gl hcode cd hp tri e bm fun ctv hn tk kp sz =>
      fin _ c' _ ctv H _ (I.kept fun b o z => Heap.get?_push_of_some _ (kp b o z)) ⟨fun _ _ z _ => z, fun _ z => z, tb⟩ (Heap.get?_push_size _ rfl) (I.hok.fresh sz) (far _ sz) ho
  | none =>
    refine PySem.W.kla_makeFunction cl I.ok.glob gl hcode cd hp tri e TB.gP bm fun c' ctv hn tk kp ge lt rec_ tabn => ?_
    obtain ⟨c2, oc, vs, tt, ec, g1, g2, g3⟩ := rec_
    cases ec
    have nc : H c' = none := I.hok.fresh ge
    have sz : s.heap.objs.size ≤ hn.objs.size := Nat.le_trans ge (Nat.le_of_lt lt)
    have stay : ∀ b o, H b = some o → NT o → upd (upd H P (.tbl (tab ++ #[rawInt pos.line, rawInt pos.col, .ref c']))) c' (LamX.CodeO c' (X.env.qual ++ "<lambda>")) b = some o := fun b o z nt => by
      have nP : b ≠ P := fun w => by
        rw [w, tP] at z
        exact nt tab (Option.some.inj z).symm
      rw [upd_ne (ne_of_none z nc), upd_ne nP]
      exact z
    have live : ∀ b, H b ≠ none → upd (upd H P (.tbl (tab ++ #[rawInt pos.line, rawInt pos.col, .ref c']))) c' (LamX.CodeO c' (X.env.qual ++ "<lambda>")) b ≠ none := fun b z => alive_upd b (alive_upd b z)
    refine fin _ c' _ ctv _ _ (LamX.inv_table I tP (fun b o nb z => Heap.get?_push_of_some _ (kp b o nb z)) (Heap.get?_push_of_some _ tabn) ge ⟨oc, vs, tt, Heap.get?_push_of_some _ g1, g2, g3⟩) ⟨stay, live, fun p hp' => ?_⟩ (Heap.get?_push_size _ rfl) ?_ (far _ sz) upd_same
    · rw [hT] at hp'
      cases List.mem_singleton.mp hp'
      have el : (tab ++ #[rawInt pos.line, rawInt pos.col, .ref c']).toList = tab.toList ++ [rawInt pos.line, rawInt pos.col, .ref c'] := by simp
      refine ⟨_, (upd_ne (ne_of_none tP nc)).trans upd_same, by rw [el]; exact PySem.TriplesOk_snoc _ _ _ _ tri, fun p2 cv z => ?_⟩
      rw [el] at z
      rcases LamX.among_app _ tri z with z | z
      · obtain ⟨c0, e1, e2⟩ := known p2 cv z
        exact ⟨c0, e1, stay _ _ e2 fun ps => LamX.codeO_ne ps⟩
      · exact ⟨c', z, upd_same⟩
    · rw [upd_ne (Nat.ne_of_gt lt), upd_ne (Nat.ne_of_gt (Nat.lt_of_lt_of_le (Heap.lt_size hp) sz))]
      exact I.hok.fresh sz
end
end Hap
namespace Hap
open PySem PySem.Spec PyProof.Rows L2
variable [TabC]
/-- what is wished of a refusal -/
def EAns (K : PySem.W.Frag) (cs : List Addr) (Q : VK) : XK := fun cls d H => d = none ∧ LamX.Tabs TabC.T H ∧ ∃ (j : Nat) (C : Addr) (nm : Str), cs[j]? = some C ∧ excN[j]? = some nm ∧ cls = .ref C ∧
  ∃ P : AS, (∀ b, P b → H b ≠ none) ∧ ∀ v P' H', New P H P' H' E_ → Rl true K P' H' (.tup [.str "refused", .str nm]) v E_ → Q v H'
def TAns (K : PySem.W.Frag) (cs : List Addr) (tl : XK → Hp → VK → Prop) (H : Hp) (Q : VK) : Prop := ∀ (E' : XK) (Q' : VK), (∀ cls d H', EAns K cs Q cls d H' → E' cls d H') →
  (∀ v H', (∀ p, H' p = none → Q (.ref p) (upd H' p (.tup [.str "told", v]))) → Q' v H') → tl E' H Q'
structure Ans (P : Program) (w : World) (K : PySem.W.Frag) (mg : Str → Option Value) (base : Heap) (cs : List Addr) (x : Str) : Prop where
  ex : ∃ g fd, mg x = some (.ref g) ∧ PySem.W.keepIn K (.ref g) = true ∧ Binds K fd ["_law_deed"] [] ∧
    ∀ (k k0 : Nat) (A : Around) (outer : List Env) (s : Shared) (H : Hp) (args : Args) (f : Addr) (fs : List Addr) (H0 : Hp) (h0 : Heap) (c : Addr) (q : Str) (tl : XK → Hp → VK → Prop) (Q : VK) (E : XK), k0 ≤ k → 2 ≤ k → Room (k + 1) A → Env0 P w K mg base A outer s H → BindsTo s fd args [("_law_deed", .ref f)] →
      Thk P w K mg base k0 f fs H0 h0 c q tl → (∀ (H' : Hp) (h' : Heap), Un (frs outer) [] H H' s.heap h' → Un fs [] H0 H' h0 h') → H c = some (LamX.CodeO c q) → TAns K cs tl H Q →
      codeAny (model P w) A (.call (.ref g) args) (CR (L2N.CX P w) outer P w H s Q E) s
section
variable {P : Program} {w : World} {K : PySem.W.Frag} {mg : Str → Option Value} {base : Heap} {CH : Addr} {cs : List Addr}
theorem ans_mk {st : Stmt} {g : Addr} {fd : FuncData} {x : Str} {N : List Str} {j1 j2 : Nat} {k1 k2 : Nat} {p1 p2 p3 p4 p5 p6 p7 p8 p9 p10 p11 p12 p13 p14 : Pos} (F : Fun K x x st g fd) (S : FnScope N ["_law_deed"] (defScope st)) (hm : mg x = some (.ref g)) (hN0 : N[0]? = some ("_law_deed" : Str)) (hN1 : N[1]? = some ("_law_e" : Str)) (hN2 : N.length = 2)
    (hb : defBody st = [.Try [.Return (some (.Tuple [.Constant (.str "told") j1 p1, .Call (.Name "_law_deed" p2) [] [] p3] k1 p4)) p5]
      [.ExceptHandler (some (.Name "HandError" p6)) (some "_law_e") [.Return (some (.Tuple [.Constant (.str "refused") j2 p7, .Call (.Name "_law_word" p8) [.Name "_law_e" p9] [] p10] k2 p11)) p12] p13] [] [] p14])
    (h0 : (defScope st).names.lookup ("_law_deed" : Str) = some .local) (h1 : (defScope st).names.lookup ("_law_e" : Str) = some .local) (hg1 : (defScope st).names.lookup ("HandError" : Str) = some .globalImplicit) (hg2 : (defScope st).names.lookup ("_law_word" : Str) = some .globalImplicit)
    (T : ETab K mg CH cs) (C : CalH P w K mg base cs "_law_word" 2) (hbd : Binds K fd ["_law_deed"] []) : Ans P w K mg base cs x := by
  refine ⟨g, fd, hm, F.kp, hbd, fun k k0 A outer s H args f fs H0 hp0 c q tl Q E hk0 hk2 hr e0 hbind Th hz hc ht => ?_⟩
  obtain ⟨oc, od, kV, doc, pm, an, cdv, ct, osl, rfl, lk, hcd⟩ := F.ex
  refine LamX.run_ofS (CX := L2N.CX P w) (N := N) (ps := ["_law_deed"]) (us := [.ref f]) (vs := [.ref f]) lk hcd S hr e0 hbind (.cons rfl .nil) rfl fun hr' => ?_
  rw [hb]
  have hv0 : ∀ (X : Cx), X.N = N → X.env.scope = defScope st → ∀ p, PE X (.Name "_law_deed" p) (tVar 0) := fun X e1 e2 p => pe_var (by rw [e1]; exact hN0) (by rw [e2]; exact .inl h0) (by decide) (by decide)
  have hv1 : ∀ (X : Cx), X.N = N → X.env.scope = defScope st → ∀ p, PE X (.Name "_law_e" p) (tVar 1) := fun X e1 e2 p => pe_var (by rw [e1]; exact hN1) (by rw [e2]; exact .inl h1) (by decide) (by decide)
  refine ⟨_, pss_one (L2N.ps_try_as (X := cxOf (L2N.CX P w) P w K mg base N x (defScope st) g cdv A outer s H E) (i := 1) (c := .ref CH) (Wout := fun _ _ _ _ => False)
    (tb := fun W' D σ Ht => σ[0]? = some (some (.ref f)) ∧ Ht c = some (LamX.CodeO c q) ∧ tl (fun cls d H' => W' cls d σ H') Ht (fun v H' => [V.str "told", v].length ≤ sizeLine ∧ ∀ p, H' p = none → D.rt (.ref p) (upd H' p (.tup [.str "told", v]))))
    (ts := tsW K cs 1 fun nm => .tup [.str "refused", .str nm]) rfl rfl S.nd hN1 h1 ⟨hg1, by decide, .inl T.gH⟩ takesN0
    (fun W' pn xe tk po => ?_) (fun a oe cls d pn hz hv => su_pair (pe_wordC (k := k) C (hr'.mono (by omega)) hk2 hz hv hg2 (hv1 _ rfl rfl _)))), ?_⟩
  · have hp := pe_thk (Z := (cxOf (L2N.CX P w) P w K mg base N x (defScope st) g cdv A outer s H E).tr pn xe) (W := W') (a := "_law_deed") (p1 := p2) (p2 := p3) Th hz (hr'.mono hk0) tk (hv0 _ rfl rfl _)
    refine pss_imp (pss_one (ps_ret (pe_tup (pa_cons pe_str (pa_cons hp pa_nil (by rfl)) (by rfl))))) fun D σ Ht z => ?_
    obtain ⟨z1, z2, z3⟩ := z
    exact ⟨z1, z2, z3⟩
  · have ls : (L2.start N [V.ref f]).length = 2 := by
      unfold L2.start
      simp [hN2]
    refine ⟨rfl, hc, ht _ _ (fun cls d H' z => ?_) fun v H' z => ⟨by show 2 ≤ sizeLine; decide, z⟩⟩
    obtain ⟨rfl, tb, j, C', nm, hj, hn, rfl, z⟩ := z
    exact ⟨true, T.exmH hj, fun _ a na => ⟨List.getElem?_set_self (by rw [ls]; decide), tb, rfl, j, C', nm, hj, hn, rfl, z⟩, fun z => by cases z⟩
end
omit [TabC] in
theorem Up.stt [TabC] {K : PySem.W.Frag} {P : AS} {H H' : Hp} {ρ : Ev} {σ : L2.St} {FE : FP} (u : Up H H') (S : Stt K P H ρ σ FE) : Stt K P H' ρ σ FE := (u.new (P := P)).stt S
theorem Up.trans {H H1 H2 : Hp} (u : Up H H1) (v : Up H1 H2) : Up H H2 := ⟨fun b o e n => v.1 b o (u.1 b o e n) n, fun b e => v.2.1 b (u.2.1 b e), v.2.2⟩
/-- the state, all of it given up -/
theorem stt_all {K : PySem.W.Frag} {P : AS} {H : Hp} {ρ : Ev} {σ : L2.St} {FE : FP} (S : Stt K P H ρ σ FE) : Stt K (fun b => H b ≠ none) H (frzE ρ) σ (fun _ => E_) := by
  refine ⟨fun b z => z, fun i b z => z.elim, fun i j b z => z.elim, fun i d e1 => ?_, by unfold frzE; simpa using S.len, S.tab⟩
  unfold frzE at e1
  rw [List.getElem?_map] at e1
  cases e2 : ρ[i]? with
  | none => rw [e2] at e1; cases e1
  | some o =>
    cases o with
    | none => rw [e2] at e1; cases e1
    | some d0 =>
      rw [e2] at e1
      cases Option.some.inj (Option.some.inj e1)
      obtain ⟨v, ev, r⟩ := S.rel i d0 e2
      exact ⟨v, ev, rl_frzV (rl_view (F' := E_) r) fun b z => z⟩
mutual
/-- every list and dict one's own; tuples -/
def newAll : D → Bool
  | .lst o xs => o && newAlls xs
  | .dct o _ xs => o && newAlls xs
  | .dcT o _ xs => o && newAlls xs
  | .tup xs => newAlls xs
  | .rol _ => false
  | .gv _ => false
  | .obj _ _ _ _ => false
  | _ => true
def newAlls : List D → Bool
  | [] => true
  | d :: ds => newAll d && newAlls ds
end
def fAns (g : Ev → R D) : Ev → R D := fun ρ => match g (frzE ρ) with
  | .ok d _ => if newAll d = true then .ok (.tup [.str "told", d]) ρ else .stk
  | .exc x _ => if x.args.isEmpty = true then .ok (.tup [.str "refused", .str x.cls]) ρ else .stk
  | .stk => .stk
/-- the refusal alone -/
def fRef (g : Ev → R D) (n : Str) : Ev → R D := fun ρ => match g (frzE ρ) with
  | .exc x _ => if x.args.isEmpty = true then .ok (.bl (decide (x.cls = n))) ρ else .stk
  | _ => .stk
section
variable {X : Cx} {RX : RXR} {W : WX} {k k0 : Nat} {CH c P : Addr} {cs : List Addr} {g : Ev → R D} {params : Arguments} {body : Expr} {scope : Scope} {lpos p pos : Pos}
/-- what the lambda makes of the maker's state -/
abbrev LamD (X : Cx) (cs : List Addr) (k0 : Nat) (scope : Scope) (body : Expr) (g : Ev → R D) : Prop := ∀ (A : Around) (outer : List Env) (s : Shared) (H : Hp) (E : XK) (f c' : Addr), Room k0 (A.deeper (LamX.lamEnv X scope s.heap.objs.size f c')) → DE (lamC X A outer s H E scope f c') (RXP cs) (fun cls d _ H => E cls d H) body g
end
end Hap
namespace Hap
open PySem PySem.Spec PyProof.Rows L2
variable [TabC]
theorem TAns.imp {K : PySem.W.Frag} {cs : List Addr} {tl : XK → Hp → VK → Prop} {H : Hp} {Q Q' : VK} (h : TAns K cs tl H Q) (w : ∀ v H', Q v H' → Q' v H') : TAns K cs tl H Q' := fun E1 Q1 hE hQ => by
  refine h E1 Q1 (fun cls d H' z => hE cls d H' ?_) fun v H' z => hQ v H' fun p hp => w _ _ (z p hp)
  obtain ⟨h1, h2, j, C, nm, h3, h4, h5, P, h6, h7⟩ := z
  exact ⟨h1, h2, j, C, nm, h3, h4, h5, P, h6, fun v P' H'' n r => w _ _ (h7 v P' H'' n r)⟩
structure Ref (P : Program) (w : World) (K : PySem.W.Frag) (mg : Str → Option Value) (base : Heap) (cs : List Addr) (x : Str) : Prop where
  ex : ∃ g fd, mg x = some (.ref g) ∧ PySem.W.keepIn K (.ref g) = true ∧ Binds K fd ["_law_deed", "_law_word_here"] [] ∧
    ∀ (k k0 : Nat) (A : Around) (outer : List Env) (s : Shared) (H : Hp) (args : Args) (f : Addr) (fs : List Addr) (H0 : Hp) (h0 : Heap) (c : Addr) (q wd : Str) (u : Value) (tl : XK → Hp → VK → Prop) (Q : VK) (E : XK), k0 ≤ k → 2 ≤ k → Room (k + 2) A → Env0 P w K mg base A outer s H → BindsTo s fd args [("_law_deed", .ref f), ("_law_word_here", u)] → RelV (.str wd) u →
      Thk P w K mg base k0 f fs H0 h0 c q tl → (∀ (H' : Hp) (h' : Heap), Un (frs outer) [] H H' s.heap h' → Un fs [] H0 H' h0 h') → H c = some (LamX.CodeO c q) →
      TAns K cs tl H (fun v H1 => ∀ p, H1 p = none → rEqU K v (.ref p) (upd H1 p (.tup [.str "refused", .str wd])) Q) →
      codeAny (model P w) A (.call (.ref g) args) (CR (L2N.CX P w) outer P w H s Q E) s
section
variable {P : Program} {w : World} {K : PySem.W.Frag} {mg : Str → Option Value} {base : Heap} {cs : List Addr}
theorem ref_mk {st : Stmt} {g : Addr} {fd : FuncData} {x y : Str} {N : List Str} {j1 k1 : Nat} {p1 p2 p3 p4 p5 p6 p7 p8 : Pos} (F : Fun K x x st g fd) (S : FnScope N ["_law_deed", "_law_word_here"] (defScope st)) (hm : mg x = some (.ref g)) (hN : N = [("_law_deed" : Str), "_law_word_here"])
    (hb : defBody st = [.Return (some (.Compare (.Call (.Name y p1) [.Name "_law_deed" p2] [] p3) [.Eq] [.Tuple [.Constant (.str "refused") j1 p4, .Name "_law_word_here" p5] k1 p6] p7)) p8])
    (h0 : (defScope st).names.lookup ("_law_deed" : Str) = some .local) (h1 : (defScope st).names.lookup ("_law_word_here" : Str) = some .local) (hg : (defScope st).names.lookup y = some .globalImplicit) (hdb : (y == ("__debug__" : Str)) = false)
    (C : Ans P w K mg base cs y) (hbd : Binds K fd ["_law_deed", "_law_word_here"] []) : Ref P w K mg base cs x := by
  refine ⟨g, fd, hm, F.kp, hbd, fun k k0 A outer s H args f fs H0 hp0 c q wd u tl Q E hk0 hk2 hr e0 hbind ru Th hz hc ht => ?_⟩
  obtain ⟨oc, od, kV, doc, pm, an, cdv, ct, osl, rfl, lk, hcd⟩ := F.ex
  obtain ⟨gA, fdA, hmA, hkA, hbA, runA⟩ := C.ex
  refine LamX.run_ofS (CX := L2N.CX P w) (N := N) (ps := ["_law_deed", "_law_word_here"]) (us := [.ref f, u]) (vs := [.ref f, .str wd]) lk hcd S hr e0 hbind (.cons rfl (.cons ru .nil)) rfl fun hr' => ?_
  rw [hb]
  generalize hZ : cxOf (L2N.CX P w) P w K mg base N x (defScope st) g cdv A outer s H E = Z at *
  have zprog : Z.prog = P := by rw [← hZ]; rfl
  have hv0 : ∀ p, PE Z (.Name "_law_deed" p) (tVar 0) := fun p => by subst hZ; exact pe_var (by rw [hN]; rfl) (.inl h0) (by decide) (by decide)
  have hv1 : ∀ p, PE Z (.Name "_law_word_here" p) (tVar 1) := fun p => by subst hZ; exact pe_var (by rw [hN]; rfl) (.inl h1) (by decide) (by decide)
  -- the answer
  have hA : PE Z (.Call (.Name y p1) [.Name "_law_deed" p2] [] p3) (fun σ Hz Qz => σ[0]? = some (some (.ref f)) ∧ Hz c = some (LamX.CodeO c q) ∧ TAns K cs tl Hz Qz) := by
    subst hZ
    refine ⟨fun pins sz σ Hz Qz I z => ?_⟩
    obtain ⟨z1, z2, z3⟩ := z
    refine wpAny_Call_Name_kw (ld_glob I hg hmA ?_ hdb)
    have ha : PA (cxOf (L2N.CX P w) P w K mg base N x (defScope st) g cdv A outer s H E) [.Name "_law_deed" p2] (tCons (tVar 0) tNil) := pa_cons (hv0 p2) pa_nil (by rfl)
    refine PySem.W.callWith_K (h₀ := base) I.ok.mod.kin hkA (thn (ha.run p3 pins sz σ Hz (fun vs Hn => vs = [.ref f] ∧ Hn = Hz) I ⟨_, z1, rfl, rfl⟩) fun us sn zn => ?_) (by rfl) (by rfl)
    obtain ⟨vs, Hn, In, rn, ev, eH⟩ := zn
    subst ev eH
    refine ⟨In.kIn, ?_⟩
    cases rn with
    | cons ra rb =>
      cases rb
      cases ra
      refine wpAny_call (codeAny_mono (runA k k0 _ _ sn Hn ⟨[.ref f], []⟩ f fs H0 hp0 c q tl Qz (fun _ _ _ => False) hk0 hk2 hr' In.env0 (hbA sn [.ref f] In.kIn rfl) Th (fun H' h' v => ?_) z2 z3) fun r s2 z => ?_)
      · exact hz H' h' (un_deeper In.base v (Heap.get?_none_of_le (Nat.le_refl _)))
      · match r, z with
        | .error e, z =>
          obtain ⟨_, _, _, _, _, _, _, _, _, _, _, _, z⟩ := z
          exact z.elim
        | .ok (.ret u), z => exact In.after z
        | .ok .next, z => exact False.elim z
        | .ok .brk, z => exact False.elim z
        | .ok .cont, z => exact False.elim z
  have hun : Z.A.units + 64 < cLine := by subst hZ; exact room64 hr'
  have kK : Z.K = K := by rw [← hZ]; rfl
  refine ⟨_, pss_one (ps_ret (pe_cmpR (op_eqU hun) hA (pe_tup (pa_cons pe_str (pa_cons (hv1 p5) pa_nil (by subst hZ; rfl)) (by subst hZ; rfl))) (by rfl))), ?_⟩
  subst hZ
  have e0 : (L2.start N [V.ref f, V.str wd]) = [some (V.ref f), some (V.str wd)] := by rw [hN]; rfl
  rw [e0]
  refine ⟨rfl, hc, ht.imp fun v H1 z => ?_⟩
  exact ⟨_, rfl, by show 2 ≤ sizeLine; decide, z⟩
end
omit [TabC] in
theorem excN_ok : ∀ n ∈ excN, ∀ c ∈ n.cps.toList, c < 0x110000 := by decide
omit [TabC] in
theorem gEq_word {a b : Str} (ha : ∀ c ∈ a.cps.toList, c < 0x110000) (hb : ∀ c ∈ b.cps.toList, c < 0x110000) : gEq (.tup [.str "refused", .str a]) (.tup [.str "refused", .str b]) = some (.bl (decide (a = b))) := by
  have hr : ∀ c ∈ ("refused" : Str).cps.toList, c < 0x110000 := by decide
  have h1 : Sh 2 (.tup [.str "refused", .str a]) := sh_tup (n := 1) fun d hd => by
    rcases List.mem_cons.mp hd with rfl | hd
    · exact sh_str hr
    · cases List.mem_singleton.mp hd; exact sh_str ha
  have h2 : Sh 2 (.tup [.str "refused", .str b]) := sh_tup (n := 1) fun d hd => by
    rcases List.mem_cons.mp hd with rfl | hd
    · exact sh_str hr
    · cases List.mem_singleton.mp hd; exact sh_str hb
  unfold gEq
  dsimp only
  rw [if_pos ⟨h1.shaped (by omega), h2.shaped (by omega)⟩]
  simp [toPy, toPys, PyData.eqv, PyData.eqvAll]
  rfl
section
variable {X : Cx} {RX : RXR} {W : WX} {k k0 j : Nat} {CH c P : Addr} {cs : List Addr} {g : Ev → R D} {params : Arguments} {body : Expr} {scope : Scope} {lpos p p2 pos : Pos} {wd : Str}
theorem de_ref {x : Str} (C : Ref X.prog X.w X.K X.mg X.base cs x) (T : ETab X.K X.mg CH cs) (hr : Room (k + 2) X.A) (hk0 : k0 + 1 ≤ k) (hk2 : 2 ≤ k) (hg : Gl X x) (TB : LamX.TabB X.base X.mg c P) (hcode : X.env.code = .ref c) (hT : TabC.T = [(P, X.env.qual ++ "<lambda>")]) (L : LamX.LamS X.env.scope scope) (hdef : defaultsOf params X.env = ([], []))
    (hbind : ∀ (q : Str) (cl : List (Str × Addr)) (pm cv ctv : Value), bindArgs (PySem.W.kla_fn "<lambda>" q params body scope cl pm cv ctv) ⟨[], []⟩ = pure []) (hb : LamD X cs k0 scope body g) (hwd : ∀ c ∈ wd.cps.toList, c < 0x110000 := by decide) (hdb : (x == ("__debug__" : Str)) = false := by decide) :
    DE X RX W (.Call (.Name x p) [.Lambda params body scope lpos, .Constant (.str wd) j p2] [] pos) (fRef g wd) := by
  obtain ⟨gA, fd, hm, hk, hbd, run⟩ := C.ex
  refine ⟨fun pins s σ H Q I q => ?_⟩
  obtain ⟨P0, ρ, FE, S, q⟩ := q
  refine wpAny_Call_Name_kw (ld_glob I hg hm ?_ hdb)
  refine PySem.W.callWith_K (h₀ := X.base) I.ok.mod.kin hk ?_ (by rfl) (by rfl)
  show wpAny _ _ (spliced ((false, eval (.Lambda params body scope lpos) X.env) :: backTo pos (starEach [.Constant (.str wd) j p2] X.env))) _ _ s
  refine Calls.spliced_cons (lam_mk I TB hcode hT S.tab hdef (L.has I.ok) fun f c' pm ctv H1 s1 I1 u1 hf nf nr hc => ?_)
  refine Calls.spliced_cons (Calls.Constant_str (k := j) (pos := p2) (Calls.spliced_nil ⟨I1.kIn, ?_⟩))
  generalize ht2 : ({ s1 with toks := s1.toks + 1 } : Shared) = s2
  have hh : s2.heap = s1.heap := by rw [← ht2]
  have I2 : Inv X pins σ H1 s2 := by rw [← ht2]; exact I1.kept (h' := s1.heap) fun _ _ z => z
  have S1 := u1.stt S
  have Th := thk_lam (t := fun E => tE X.K (RXP cs) (fun cls d _ H => E cls d H) g) I2 L (by rw [hh]; exact hf) nf nr (hbind _ _ _ _ _) fun A outer s H E hr => hb A outer s H E f c' hr
  refine wpAny_call (codeAny_mono (run k (k0 + 1) X.A X.stack s2 H1 ⟨[.ref f, .str wd s1.toks], []⟩ f (frs X.stack) H1 s2.heap c' (X.env.qual ++ "<lambda>") wd (.str wd s1.toks) _ Q (fun _ _ _ => False) hk0 hk2 hr I2.env0 (hbd s2 [.ref f, .str wd s1.toks] I2.kIn rfl) ⟨_, rfl⟩ Th (fun _ _ z => z) hc fun E' Q' hE hQ => ?_) fun r s3 z => ?_)
  · refine ⟨_, frzE ρ, _, stt_all S1, ?_⟩
    unfold fRef at q
    cases e : g (frzE ρ) with
    | stk => simp only [e] at q
    | ok d ρ1 => simp only [e] at q
    | exc x ρ1 =>
      simp only [e] at q
      intro cls dx P2 H2 FE2 S2 t2 r2
      have u2 : Up H1 H2 := ⟨fun b o e nt => t2.frame b o e (fun ⟨_, z⟩ => z) nt, t2.alive, S2.tab⟩
      have u3 := u1.trans u2
      by_cases ha : x.args.isEmpty = true
      · simp only [if_pos ha] at q
        obtain ⟨j, C', hj, hn, rfl, hx⟩ := r2
        have hx' : dx = none := hx.elim (fun z => z.2) fun ⟨d, _, _, _, _, z⟩ => (z (List.isEmpty_iff.mp ha)).elim
        refine hE _ _ _ ⟨hx', S2.tab, j, C', x.cls, hj, hn, rfl, P0, (u3.stt S).pin, fun v P3 H3 n3 r3 p hp => ?_⟩
        have n4 : New P3 H3 (fun b => P3 b ∨ b = p) (upd H3 p (.tup [.str "refused", .str wd])) E_ := New.tup hp
        have S3 := n3.stt (u3.stt S)
        have S4 := n4.stt S3
        refine vEq _ _ (.tup [.str "refused", .str x.cls]) (.tup [.str "refused", .str wd]) v (.ref p) (.bl (decide (x.cls = wd))) Q S4.pin (rl_mono (rl_view r3) n4.mono (fun b o e _ => n4.same b o e) fun _ z => z) (.tup upd_same (.inr rfl) (.cons (F1 := E_) (F2 := E_) .str (.cons (F1 := E_) (F2 := E_) .str .nil (fun _ z => z) (fun _ z => z) fun _ z => z.elim) (fun _ z => z) (fun _ z => z) fun _ z => z.elim)) ?_ fun u P5 H5 F5 n5 r5 => ?_
        · exact gEq_word (excN_ok _ (List.mem_of_getElem? hn)) hwd
        · cases r5
          exact q _ P5 H5 FE E_ (n5.stt S4) ⟨.bl, fun b z => z.elim⟩ ((u3.new.tr.less'.trans ((n3.trans_ n4).trans_ n5.less_).tr).less fun b z => z)
      · simp only [if_neg ha] at q
  · match r, z with
    | .error e, z =>
      obtain ⟨_, _, _, _, _, _, _, _, _, _, _, _, z⟩ := z
      exact z.elim
    | .ok (.ret u), z => exact I2.after z
    | .ok .next, z => exact False.elim z
    | .ok .brk, z => exact False.elim z
    | .ok .cont, z => exact False.elim z
end
end Hap
namespace Hap
open PySem PySem.Spec PyProof.Rows L2
theorem walkDL {l : PySem.W.OpenLaw} {k : Nat} {q : Program} {loose : List Str} {XP : (Str → Option Value) → Heap → Prop} {YP : World → Heap → Prop} {d : DefRec} {K : Params → PySem.W.Frag} {x : Str} {sem : Fn} (hn : l.most = some 63) (hdf : d.params.defaults = [])
    (hk : k ≤ 60) (hY : ∀ (w : World) (h : Heap), YP w h → (K w.params).In h)
    (F : ∀ (w : World) (mg : Str → Option Value) (fa : Addr) (h : Heap), YP w h → (K w.params).In h → h.Ns mainGlobals mg → mg d.name = some (.ref fa) →
      ∃ (fd : FuncData) (c P : Addr) (qn : Str), h.get? P = some { cls := .none, data := .fields #[] } ∧ (K w.params).lookup P = none ∧ PySem.W.CodeHd h c P ∧ (∀ (s : Shared) (u : Value), BindsTo s fd ⟨[u], []⟩ [(x, u)]) ∧
        ∀ base : Heap, (K w.params).In base → base.Ns mainGlobals mg → LamX.TabB base mg c P → FnOk l.prog w (K w.params) mg base (L2N.CX l.prog w) k fa fd [x] (@spTop ⟨[(P, qn)]⟩ (K w.params) (List.replicate 1 false) sem))
    (hm : ∀ ns : List Int, ns.length ≤ 63 → ∃ o, sem [.rol (ns.map D.int)] = .rt (.bl true) o) :
    PySem.W.WalkO q loose XP YP l.row.toRowW d [] (fun f vs => PySem.call f vs) := by
  refine LamX.walk_ofTs (n := 63) (k := k) (x := x) (CX := fun w => L2N.CX l.prog w) hn (by decide) hdf (Room.mono (k := 60) ⟨rfl, by decide, by decide⟩ hk) hY (fun w mg fa h Y KX G hmg => ?_) fun w H s e s' h => hCX0 h
  obtain ⟨fd, c, P, qn, hT, nT, hC, hb, hF⟩ := F w mg fa h Y KX G hmg
  have one : ∀ {C : Addr × Addr → Prop}, C (c, P) → ∀ p ∈ [(c, P)], C p := fun {C} z p hp => by cases List.mem_singleton.mp hp; exact z
  refine ⟨fd, [(c, P)], @spTop ⟨[(P, qn)]⟩ (K w.params) (List.replicate 1 false) sem, one hT, one nT, one hC, hb, fun H a ns hl _ ht hS => ?_, fun base i1 i2 tb => hF base i1 i2 (tb _ (List.mem_singleton.mpr rfl))⟩
  intro RX
  refine @law_sp ⟨[(P, qn)]⟩ _ RX sem a ns H (fun p hp => ?_) hS (hm ns hl)
  cases List.mem_singleton.mp hp
  exact LamX.TabS.nil (ht _ (List.mem_singleton.mpr rfl))
end Hap
namespace Hap
open PySem PySem.Spec PyProof.Rows L2
variable [TabC]
def gUpper (d : D) : Option D := match d with
  | .str x => if x.length ≤ 5592405 then some (.str (Txt.upper x)) else none
  | _ => none
abbrev rUp : V → Hp → VK → Prop := fun x H Q => (∃ a : Str, x = .str a) ∧ ∃ a, x = .str a ∧ ([] : List V) = [] ∧ a.length ≤ 5592405 ∧ Q (.str (Txt.upper a)) H
theorem vUpper {K : PySem.W.Frag} : VOp1 K rUp gUpper := by
  intro P H d v x Q pin r g h
  unfold gUpper at g
  split at g
  · split at g
    · rename_i c
      cases g
      exact ⟨⟨_, rl_str r⟩, _, rl_str r, rfl, c, h _ P H E_ New.refl .str⟩
    · cases g
  · cases g
section
variable {X : Cx} {RX : RXR} {W : WX}
theorem de_upper {e : Expr} {f : Ev → R D} {apos pos : Pos} (h : DE X RX W e f) (hbase : attributeBase e "upper" X.env (eval e X.env) = eval e X.env := by rfl) (hline : (apos.endLine == pos.line) = true := by rfl) :
    DE X RX W (.Call (.Attribute e "upper" apos) [] [] pos) (fOp1 gUpper f) :=
  pe_imp (pe_upper h hbase hline) fun σ H Q q => e_op1 vUpper q
end
omit [TabC] in
@[simp] theorem upper_s {x : Str} : gUpper (.str x) = if x.length ≤ 5592405 then some (.str (Txt.upper x)) else none := (rfl)
end Hap
namespace Hap
open PySem PySem.Spec PyProof.Rows L2
def refR (r : R D) (n : Str) (ρ : Ev) : R D := match r with
  | .exc x _ => if x.args.isEmpty = true then .ok (.bl (decide (x.cls = n))) ρ else .stk
  | _ => .stk
def ansR (r : R D) (ρ : Ev) : R D := match r with
  | .ok d _ => if newAll d = true then .ok (.tup [.str "told", d]) ρ else .stk
  | .exc x _ => if x.args.isEmpty = true then .ok (.tup [.str "refused", .str x.cls]) ρ else .stk
  | .stk => .stk
section
variable {g : Ev → R D} {ρ ρ' : Ev} {n c : Str} {d : D}
@[simp] theorem ap_refL : fRef g n ρ = refR (g (frzE ρ)) n ρ := by unfold fRef refR; rfl
@[simp] theorem refR_exc : refR (.exc ⟨c, []⟩ ρ') n ρ = .ok (.bl (decide (c = n))) ρ := (rfl)
@[simp] theorem ap_ansL : fAns g ρ = ansR (g (frzE ρ)) ρ := by unfold fAns ansR; rfl
@[simp] theorem ansR_exc : ansR (.exc ⟨c, []⟩ ρ') ρ = .ok (.tup [.str "refused", .str c]) ρ := (rfl)
@[simp] theorem ansR_ok : ansR (.ok d ρ') ρ = if newAll d = true then .ok (.tup [.str "told", d]) ρ else .stk := (rfl)
end
section
variable {d : D} {ds : List D}
@[simp] theorem nw_int {i} : newAll (.int i) = true := (rfl)
@[simp] theorem nw_bl {i} : newAll (.bl i) = true := (rfl)
@[simp] theorem nw_str {i} : newAll (.str i) = true := (rfl)
@[simp] theorem nw_non : newAll .non = true := (rfl)
@[simp] theorem nw_lst : newAll (.lst true ds) = newAlls ds := (by simp [newAll])
@[simp] theorem nw_tup : newAll (.tup ds) = newAlls ds := (by simp [newAll])
@[simp] theorem nws_nil : newAlls [] = true := (rfl)
@[simp] theorem nws_cons : newAlls (d :: ds) = (newAll d && newAlls ds) := (rfl)
end
end Hap
namespace Hap
open PySem PySem.Spec PyProof.Rows L2
variable [TabC]
def gRevL (d : D) : Option D := match d with
  | .lst _ xs => if isImms xs = true then some (.lst true xs.reverse) else none
  | _ => none
omit [TabC] in
theorem rls_rev {K : PySem.W.Frag} {P : AS} {H : Hp} : ∀ {ds : List D} {vs : List V}, Rls false K P H ds vs E_ → Rls false K P H ds.reverse vs.reverse E_
  | _, _, .nil => .nil
  | _, _, .cons r rs s1 s2 dj => by
    rw [List.reverse_cons, List.reverse_cons]
    exact rls_app (rls_rev (rls_mono rs (fun _ z => z) (fun _ _ e _ _ => e) fun b z => s2 b z)) (.cons (F1 := E_) (F2 := E_) (rl_mono r (fun _ z => z) (fun _ _ e _ _ => e) fun b z => s1 b z) .nil (fun _ z => z) (fun _ z => z) fun _ z => z.elim)
section
variable {X : Cx} {RX : RXR} {W : WX} {e : Expr} {pos : Pos}
theorem de_revL {f : Ev → R D} {k : Nat} {p1 p2 p3 : Pos} (he : DE X RX W e f) : DE X RX W (.Subscript e (.Slice none none (some (.UnaryOp .USub (.Constant (.int 1) k p1) p2)) p3) pos) (fOp1 gRevL f) := by
  refine pe_imp (pe_revL he) fun σ H Q q => ?_
  have hv : VOp1 X.K (fun x H Q => ∃ a xs, x = .ref a ∧ SqL X.K H a xs ∧ ∀ p, H p = none → Q (.ref p) (upd H p (.lst xs.reverse))) gRevL := by
    intro P H d v x Q pin r g h
    cases d with
    | lst o xs =>
      simp only [gRevL] at g
      by_cases c : isImms xs = true
      · rw [if_pos c] at g; cases g
        obtain ⟨a, vs, rfl, ha, rs⟩ := lst_read r
        refine ⟨a, vs, rfl, .inl (.inl ha), fun p hp => ?_⟩
        have i2 : isImms xs.reverse = true := imms_all.mpr fun e he => imms_all.mp c e (List.mem_reverse.mp he)
        obtain ⟨n, r2⟩ := new_lst hp pin i2 (rls_rev rs)
        exact h _ _ _ _ n r2
      · rw [if_neg c] at g; cases g
    | _ => simp [gRevL] at g
  exact e_op1 hv q
end
omit [TabC] in
@[simp] theorem revL_l {o : Bool} {xs : List D} : gRevL (.lst o xs) = if isImms xs = true then some (.lst true xs.reverse) else none := (rfl)
end Hap
namespace Hap
open PySem PySem.Spec PyProof.Rows L2
variable [TabC]
section
variable {K : PySem.W.Frag} {P : AS} {H : Hp}
def appP : List Int → D → D → Option D
  | [], e, d => (match d with
    | .lst true xs => if xs.length < sizeLine then some (.lst true (xs ++ [e])) else none
    | _ => none)
  | j :: js, e, d => (match d with
    | .tup ds => (ixN ds.length j).bind fun k => (ds[k]?).bind fun d0 => (appP js e d0).map fun d' => .tup (ds.set k d')
    | .lst true ds => (ixN ds.length j).bind fun k => (ds[k]?).bind fun d0 => (appP js e d0).map fun d' => .lst true (ds.set k d')
    | _ => none)
end
def fAppP (i : Nat) (js : List Int) (n : Int) : Ev → RS := fun ρ => match ρ[i]? with
  | some (some d) => (match appP js (.int n) d with
    | some d2 => .nx (ρ.set i (some d2))
    | none => .stk)
  | _ => .stk
def setQ (o : Option D) (i : Nat) (ρ : Ev) : RS := match o with
  | some d2 => .nx (ρ.set i (some d2))
  | none => .stk
def setP (js : List Int) (n : Int) (o : Option (Option D)) (i : Nat) (ρ : Ev) : RS := match o with
  | some (some d) => setQ (appP js (.int n) d) i ρ
  | _ => .stk
section
variable {ρ : Ev} {i : Nat} {js : List Int} {n : Int} {d : D}
omit [TabC]
@[simp] theorem ap_appP : fAppP i js n ρ = setP js n ρ[i]? i ρ := (rfl)
@[simp] theorem setP_s : setP js n (some (some d)) i ρ = setQ (appP js (.int n) d) i ρ := (rfl)
@[simp] theorem setQ_s : setQ (some d) i ρ = .nx (ρ.set i (some d)) := (rfl)
end
def gSplit (d : D) (ds : List D) : Option D := match d with
  | .str a => (match ds with
    | [.str b] => if (b.length == 0) = false ∧ a.length + 2 ≤ sizeLine then some (.lst true ((Txt.split a b).map D.str)) else none
    | _ => none)
  | _ => none
theorem vSplit {K : PySem.W.Frag} : VMt K "str" (fun x xs H Q => ∃ a b, x = .str a ∧ xs = [.str b] ∧ (b.length == 0) = false ∧ a.length + 2 ≤ sizeLine ∧ rNewStrs (Txt.split a b) H Q) gSplit isStrD := by
  refine ⟨vFind.1, ?_⟩
  intro P H d ds v vs x Q pin r rs g h
  unfold gSplit at g
  split at g
  · rename_i a
    split at g
    · rename_i b
      split at g
      · rename_i c
        cases g
        obtain ⟨w, rfl, r2⟩ := rls1 rs
        rw [rl_str r, rl_str r2]
        refine ⟨a, b, rfl, rfl, c.1, c.2, fun q hq => ?_⟩
        obtain ⟨n, r'⟩ := new_lst hq pin (imms_strs (Txt.split a b)) (rls_strs (Txt.split a b))
        exact h _ _ _ _ n r'
      · cases g
    · cases g
  · cases g
section
omit [TabC]
@[simp] theorem split_s {a b : Str} : gSplit (.str a) [.str b] = if (b.length == 0) = false ∧ a.length + 2 ≤ sizeLine then some (.lst true ((Txt.split a b).map D.str)) else none := (rfl)
end
end Hap
namespace Hap
open PySem PySem.Spec PyProof.Rows L2
variable [TabC]
/-- the keys as data -/
def keyD : Key → D
  | .inl n => .int n
  | .inr x => .str x
def iKey (i : Nat) : Ev → R (List D) := fun ρ => match ρ[i]? with
  | some (some (.dct false ks _)) => .ok (ks.map keyD) ρ
  | _ => .stk
section
variable {ρ : Ev} {i : Nat}
def keyR (o : Option (Option D)) (ρ : Ev) : R (List D) := match o with
  | some (some (.dct false ks _)) => .ok (ks.map keyD) ρ
  | _ => .stk
omit [TabC] in
@[simp] theorem ap_key : iKey i ρ = keyR ρ[i]? ρ := by unfold iKey keyR; rfl
omit [TabC] in
@[simp] theorem keyR_s {ks : List Key} {xs : List D} : keyR (some (some (.dct false ks xs))) ρ = .ok (ks.map keyD) ρ := (rfl)
end
end Hap
namespace ZN
open PySem PySem.Spec PyProof.Rows L2
abbrev ZipF (h : Heap) (z TI TO : Addr) (f0 : Value) (f : Bool) : Prop :=
  h.get? z = some { cls := .type "zip", dict := none, data := .fields #[f0, .bool f, .bool false, .ref TI, .ref TO], slots := #[] }
/-- a zip between two turns -/
def Zf (h : Heap) (z TI TO : Addr) : Prop := ∃ f0 f, ZipF h z TI TO f0 f ∧ (f0 = .none ∨ ∃ T : Nat, f0 = rawInt (T : Int))
end ZN
namespace ZN
open PySem PySem.Spec PyProof.Rows L2
/-- a zip of two lists, k pairs on -/
structure Zst (h : Heap) (z TI TO i1 i2 l1 l2 : Addr) (k : Nat) : Prop where
  zf : Zf h z TI TO
  ti : IsPair h TI (.ref i1) (.ref i2)
  to : ∃ a b, IsPair h TO a b
  it1 : h.IsListIter i1 l1 k
  it2 : h.IsListIter i2 l2 k
theorem Zst.keep {h h' : Heap} {z TI TO i1 i2 l1 l2 : Addr} {k : Nat} (s : Zst h z TI TO i1 i2 l1 l2 k) (hk : ∀ b ∈ [z, TI, TO, i1, i2], ∀ o, h.get? b = some o → h'.get? b = some o) : Zst h' z TI TO i1 i2 l1 l2 k where
  zf := let ⟨f0, f, e, r⟩ := s.zf; ⟨f0, f, hk z (by simp) _ e, r⟩
  ti := hk TI (by simp) _ s.ti
  to := let ⟨a, b, e⟩ := s.to; ⟨a, b, hk TO (by simp) _ e⟩
  it1 := s.it1.at fun o q => hk i1 (by simp) o q
  it2 := s.it2.at fun o q => hk i2 (by simp) o q
end ZN
namespace Hap
open PySem PySem.Spec PyProof.Rows L2
end Hap
namespace M
open PySem PySem.Spec PyProof.Rows L2 Hap
def b__law_bag : Ev → RS :=
  (fSeq (fIf (fTv (vOp2 gGe (vOpN gAbs (vCons (vVar 0) vNil)) (vOp2 gPow (vK (.int 10)) (vK (.int 18)))))
    (fRet (fLst (fCons (fI (vOpN gAbs (vCons (vVar 0) vNil))) (fCons (fK (.int 0)) fNil))))
    fNext)
    (fRet (fLst (fCons (fI (vOp2 gMod (vVar 0) (vK (.int 2147483647)))) (fCons (fK (.int 1)) fNil)))))
def m__law_bag : Fn := semOf (List.replicate 1 false) 1 b__law_bag
def b__law_take : Ev → RS :=
  (fSeq (fIf (fTv (vOp2 gEq (vOp2 gIx (vVar 0) (vK (.int 1))) (vK (.int 0))))
    (fSeq (fAsg (fI (vOp2 gMod (vOp2 gIx (vVar 0) (vK (.int 0))) (vVar 1))) (gN 2))
    (fSeq (fSetL 0 (fI (vOp2 gFdiv (vOp2 gIx (vVar 0) (vK (.int 0))) (vVar 1))) (fK (.int 0)))
    (fRet (fMv 2))))
    fNext)
    (fSeq (fSetL 0 (fI (vOp2 gMod (vOp2 gAdd (vOp2 gAdd (vOp2 gMul (vOp2 gIx (vVar 0) (vK (.int 0))) (vK (.int 48271))) (vOp2 gMul (vOp2 gMul (vK (.int 7919)) (vOp2 gIx (vVar 0) (vK (.int 1)))) (vOp2 gIx (vVar 0) (vK (.int 1))))) (vK (.int 17))) (vK (.int 2147483647)))) (fK (.int 0)))
    (fSeq (fSetL 0 (fI (vOp2 gAdd (vOp2 gIx (vVar 0) (vK (.int 1))) (vK (.int 1)))) (fK (.int 1)))
    (fRet (fI (vOp2 gMod (vOp2 gFdiv (vOp2 gMod (vOp2 gMul (vOp2 gIx (vVar 0) (vK (.int 0))) (vK (.int 69621))) (vK (.int 2147483629))) (vK (.int 5))) (vVar 1)))))))
def m__law_take : Fn := semOf (true :: List.replicate 1 false) 3 b__law_take
def l__law_house_1 : Ev → RS :=
  (fSeq (fAsg (fOp2 gAdd (fVar 5) (fCallIO 0 2 m__law_take (fCons (fI (vOp2 gSub (vOp2 gAdd (vOp2 gSub (vK (.int 27)) (vVar 2)) (vVar 6)) (vVar 5))) fNil))) (gN 5))
    (fSeq (fAsg (fOp2 gAdd (fK (.int 1)) (fCallIO 0 2 m__law_take (fCons (fI (vOp2 gSub (vOp2 gShl (vK (.int 1)) (vVar 1)) (vK (.int 1)))) fNil))) (gN 7))
    (fSeq (fIf (fTv (vOp2 gEq (vVar 3) (vK (.int 1))))
    (fAsg (fOp2 gBor (fOp2 gShl (fK (.int 1)) (fCallIO 0 2 m__law_take (fCons (fVar 1) fNil))) (fOp2 gShl (fK (.int 1)) (fCallIO 0 2 m__law_take (fCons (fVar 1) fNil)))) (gN 7))
    fNext)
    (fSeq (fAppend 4 (fCons (fTup (fCons (fI (vOp2 gIx (vK (.str "abcdefghijklmnopqrstuvwxyz")) (vVar 5))) (fCons (fLc (fItN rng1 (fCons (fVar 1) fNil)) (gN 8) (fTv (vOp2 gEq (vOp2 gBand (vOp2 gShr (vVar 7) (vVar 8)) (vK (.int 1))) (vK (.int 1)))) (fVar 8) [8]) fNil))) fNil))
    (fAsg (fI (vOp2 gAdd (vVar 5) (vK (.int 1)))) (gN 5))))))
def b__law_house : Ev → RS :=
  (fSeq (fAsg (fOp2 gAdd (fK (.int 2)) (fCallIO 0 2 m__law_take (fCons (fK (.int 3)) fNil))) (gN 1))
    (fSeq (fAsg (fOp2 gAdd (fK (.int 1)) (fCallIO 0 2 m__law_take (fCons (fK (.int 6)) fNil))) (gN 2))
    (fSeq (fAsg (fCallIO 0 2 m__law_take (fCons (fK (.int 2)) fNil)) (gN 3))
    (fSeq (fAsg (fLst fNil) (gN 4))
    (fSeq (fAsg (fK (.int 0)) (gN 5))
    (fSeq (fFor (fItN rng1 (fCons (fVar 2) fNil)) (gN 6) l__law_house_1)
    (fRet (fTup (fConsL 1 (fConsL 4 fNil))))))))))
def m__law_house : Fn := semOf (true :: List.replicate 0 false) 9 b__law_house
def b_is_whole : Ev → RS :=
  (fRet (fAndD (fI (vOpN gIsi (vCons (vVar 0) (vCons (vK (.gv (.ty "int"))) vNil)))) (fNotD (fI (vOpN gIsi (vCons (vVar 0) (vCons (vK (.gv (.ty "bool"))) vNil)))))))
def m_is_whole : Fn := semOf (List.replicate 1 false) 1 b_is_whole
def l_is_rising_1 : Ev → RS :=
  (fSeq (fIf (fOr (fNot (fTb (fCall 1 m_is_whole (fCons (fVar 3) fNil)))) (fNot (fTb (fChain gLt gLt (fVar 2) (fVar 3) (fVar 1)))))
    (fRet (fK (.bl false)))
    fNext)
    (fAsg (fVar 3) (gN 2)))
def b_is_rising : Ev → RS :=
  (fSeq (fIf (fNot (fTv (vOpN gIsi (vCons (vVar 0) (vCons (vK (.gv (.ty "list"))) vNil)))))
    (fRet (fK (.bl false)))
    fNext)
    (fSeq (fAsg (fI (vOp1 gNeg (vK (.int 1)))) (gN 2))
    (fSeq (fFor (fIt itemsL (fVar 0)) (gN 3) l_is_rising_1)
    (fRet (fK (.bl true))))))
def m_is_rising : Fn := semOf (List.replicate 2 false) 4 b_is_rising
def b_is_sign : Ev → RS :=
  (fRet (fAndD (fI (vOpN gIsi (vCons (vVar 0) (vCons (vK (.gv (.ty "str"))) vNil)))) (fAndD (fI (vOp2 gEq (vOpN gLen (vCons (vVar 0) vNil)) (vK (.int 1)))) (fI (vOp2 gIn (vVar 0) (vK (.str "abcdefghijklmnopqrstuvwxyz")))))))
def m_is_sign : Fn := semOf (List.replicate 1 false) 1 b_is_sign
def b_is_entry : Ev → RS :=
  (fSeq (fIf (fOr (fNot (fTv (vOpN gIsi (vCons (vVar 0) (vCons (vK (.gv (.ty "tuple"))) vNil))))) (fOr (fTv (vOp2 gNe (vOpN gLen (vCons (vVar 0) vNil)) (vK (.int 2)))) (fNot (fTb (fCall 1 m_is_sign (fCons (fI (vOp2 gIx (vVar 0) (vK (.int 0)))) fNil))))))
    (fRet (fK (.bl false)))
    fNext)
    (fRet (fAndD (fCall 2 m_is_rising (fCons (fI (vOp2 gIx (vVar 0) (vK (.int 1)))) (fCons (fVar 1) fNil))) (fI (vOp2 gGt (vOpN gLen (vCons (vOp2 gIx (vVar 0) (vK (.int 1))) vNil)) (vK (.int 0)))))))
def m_is_entry : Fn := semOf (List.replicate 2 false) 2 b_is_entry
def l_is_house_1 : Ev → RS :=
  (fSeq (fIf (fOr (fNot (fTb (fCall 2 m_is_entry (fCons (fVar 4) (fCons (fVar 1) fNil))))) (fNot (fTv (vOp2 gLt (vVar 3) (vOp2 gIx (vVar 4) (vK (.int 0)))))))
    (fRet (fK (.bl false)))
    fNext)
    (fAsg (fI (vOp2 gIx (vVar 4) (vK (.int 0)))) (gN 3)))
def b_is_house : Ev → RS :=
  (fSeq (fIf (fOr (fNot (fTv (vOpN gIsi (vCons (vVar 0) (vCons (vK (.gv (.ty "tuple"))) vNil))))) (fTv (vOp2 gNe (vOpN gLen (vCons (vVar 0) vNil)) (vK (.int 2)))))
    (fRet (fK (.bl false)))
    fNext)
    (fSeq (fAsg (fVar 0) (gT 2 (gsC (gN 1) (gsC (gN 2) gsN))))
    (fSeq (fIf (fOr (fNot (fTb (fCall 1 m_is_whole (fCons (fVar 1) fNil)))) (fNot (fTb (fChain gLe gLe (fK (.int 2)) (fVar 1) (fK (.int 4))))))
    (fRet (fK (.bl false)))
    fNext)
    (fSeq (fIf (fOr (fNot (fTv (vOpN gIsi (vCons (vVar 2) (vCons (vK (.gv (.ty "list"))) vNil))))) (fNot (fTb (fChain gLe gLe (fK (.int 1)) (fI (vOpN gLen (vCons (vVar 2) vNil))) (fK (.int 6))))))
    (fRet (fK (.bl false)))
    fNext)
    (fSeq (fAsg (fK (.str "")) (gN 3))
    (fSeq (fFor (fIt itemsL (fVar 2)) (gN 4) l_is_house_1)
    (fRet (fK (.bl true)))))))))
def m_is_house : Fn := semOf (List.replicate 1 false) 5 b_is_house
def b_look_house : Ev → RS :=
  (fIf (fNot (fTb (fCall 1 m_is_house (fCons (fVar 0) fNil))))
    (fRaise "NoHouse")
    fNext)
def m_look_house : Fn := semOf (List.replicate 1 false) 1 b_look_house
def b_letters_of : Ev → RS :=
  (fRet (fLc (fIt itemsL (fI (vOp2 gIx (vVar 0) (vK (.int 1))))) (gT 2 (gsC (gN 1) (gsC (gN 2) gsN))) fYes (fVar 1) [1, 2]))
def m_letters_of : Fn := semOf (List.replicate 1 false) 3 b_letters_of
def b_is_row : Ev → RS :=
  (fSeq (fDrop (fCall 1 m_look_house (fCons (fVar 0) fNil)))
    (fRet (fAndD (fI (vOpN gIsi (vCons (vVar 1) (vCons (vK (.gv (.ty "str"))) vNil)))) (fOpN gAll (fCons (fLc (fIt itemsS (fVar 1)) (gN 2) fYes (fOp2L gIn 2 (fCall 1 m_letters_of (fCons (fVar 0) fNil))) [2]) fNil)))))
def m_is_row : Fn := semOf (List.replicate 2 false) 3 b_is_row
def b__law_cell : Ev → RS :=
  (fSeq (fIf (fTv (vOp2 gLt (vVar 1) (vOpN gLen (vCons (vVar 0) vNil))))
    (fRet (fI (vOp2 gIx (vVar 0) (vVar 1))))
    fNext)
    (fRet (fK (.int 0))))
def m__law_cell : Fn := semOf (List.replicate 2 false) 2 b__law_cell
def Bag (n : Nat) (g : D) : Prop := ∃ a b : Int, g = .lst true [.int a, .int b] ∧ 0 ≤ b ∧ b ≤ n
theorem Bag.mono {n m : Nat} {g : D} (h : Bag n g) (l : n ≤ m) : Bag m g := by
  obtain ⟨a, b, e, h0, h1⟩ := h
  exact ⟨a, b, e, h0, by omega⟩
theorem take_spec {n : Nat} {g : D} {m : Int} (h : Bag n g) (hn : n < 2 ^ 60) (h0 : 0 < m) (h1 : m < 2 ^ 40) : ∃ (r : Nat) (g' : D), (r : Int) < m ∧ Bag (n + 1) g' ∧ m__law_take [g, .int m] = .rt (.int r) [some g', none] := by
  obtain ⟨a, b, rfl, hb0, hb1⟩ := h
  have nz : m ≠ 0 := by omega
  by_cases e : b = 0
  · subst e
    have cd : CDivX a m := ⟨nz, by omega⟩
    have hr0 : 0 ≤ Int.fmod a m := Int.fmod_nonneg_of_pos a h0
    have hr1 : Int.fmod a m < m := Int.fmod_lt_of_pos a h0
    refine ⟨(Int.fmod a m).toNat, .lst true [.int (Int.fdiv a m), .int 0], by omega, ⟨_, 0, rfl, by omega, by omega⟩, ?_⟩
    unfold m__law_take
    rw [semOf_ap]
    unfold b__law_take
    simp [nz, cd, setS, ixN, Int.toNat_of_nonneg hr0]
  · have c1 : CMul a 48271 := .inr ⟨by decide, by decide⟩
    have c2 : CMul 7919 b := .inl ⟨by decide, by decide⟩
    have c3 : CMul (7919 * b) b := .inr ⟨by omega, by omega⟩
    have c4 : ∀ x, CMul x 69621 := fun x => .inr ⟨by decide, by decide⟩
    have c5 : ∀ x, CDivX x 5 := fun x => ⟨by decide, by decide⟩
    let x := Int.fmod (a * 48271 + 7919 * b * b + 17) 2147483647
    let y := Int.fdiv (Int.fmod (x * 69621) 2147483629) 5
    have hr0 : 0 ≤ Int.fmod y m := Int.fmod_nonneg_of_pos y h0
    have hr1 : Int.fmod y m < m := Int.fmod_lt_of_pos y h0
    refine ⟨(Int.fmod y m).toNat, .lst true [.int x, .int (b + 1)], by omega, ⟨_, b + 1, rfl, by omega, by omega⟩, ?_⟩
    unfold m__law_take
    rw [semOf_ap]
    unfold b__law_take
    simp [nz, e, c1, c2, c3, c4, c5, setS, ixN, Int.toNat_of_nonneg hr0, x, y]
theorem bag_spec (c : Int) : ∃ g, Bag 1 g ∧ m__law_bag [.int c] = .rt g [none] := by
  have c1 : CPow 10 18 := ⟨by decide, by decide, by decide⟩
  by_cases h : (10 : Int) ^ 18 ≤ (if c < 0 then -c else c)
  · refine ⟨.lst true [.int (if c < 0 then -c else c), .int 0], ⟨_, 0, rfl, by omega, by omega⟩, ?_⟩
    unfold m__law_bag
    rw [semOf_ap]
    unfold b__law_bag
    have h' : (1000000000000000000 : Int) ≤ (if c < 0 then -c else c) := h
    simp [c1, sizeLine]
    rw [if_pos h']
    simp
  · refine ⟨.lst true [.int (Int.fmod c 2147483647), .int 1], ⟨_, 1, rfl, by omega, by omega⟩, ?_⟩
    unfold m__law_bag
    rw [semOf_ap]
    unfold b__law_bag
    have h' : ¬ (1000000000000000000 : Int) ≤ (if c < 0 then -c else c) := h
    simp [c1, sizeLine]
    rw [if_neg h']
    simp [sizeLine]
def sg (l : Nat) : Str := ⟨#[97 + l]⟩
def natD (x : Nat) : D := .int (x : Int)
def ownD (o : Bool) (ow : List Nat) : D := .lst o (ow.map natD)
def entD (o : Bool) (e : Nat × List Nat) : D := .tup [.str (sg e.1), ownD o e.2]
def houD (o : Bool) (h : Nat) (L : List (Nat × List Nat)) : D := .tup [.int h, .lst o (L.map (entD o))]
structure Own (h : Nat) (ow : List Nat) : Prop where
  ne : ow ≠ []
  rise : ow.Pairwise (· < ·)
  lt : ∀ x ∈ ow, x < h
structure House (h : Nat) (L : List (Nat × List Nat)) : Prop where
  h2 : 2 ≤ h
  h4 : h ≤ 4
  l1 : 1 ≤ L.length
  l6 : L.length ≤ 6
  rise : L.Pairwise fun e f => e.1 < f.1
  lt : ∀ e ∈ L, e.1 < 26
  own : ∀ e ∈ L, Own h e.2
@[simp] theorem frz_own {o ow} : frz (ownD o ow) = ownD false ow := by
  unfold ownD; rw [frz_lst, frzs_mapf (g := natD) fun _ _ => rfl]
@[simp] theorem frz_ent {o e} : frz (entD o e) = entD false e := by
  unfold entD; simp
@[simp] theorem frz_hou {o h L} : frz (houD o h L) = houD false h L := by
  unfold houD; simp [frzs_mapf (f := entD o) (g := entD false) fun _ _ => frz_ent]
@[simp] theorem imm_own {ow} : isImm (ownD false ow) = true := by
  unfold ownD; simp; exact imms_map fun _ _ => rfl
@[simp] theorem imm_ent {e} : isImm (entD false e) = true := by unfold entD; simp
@[simp] theorem imm_hou {h L} : isImm (houD false h L) = true := by
  unfold houD; simp; exact imms_map fun _ _ => imm_ent
@[simp] theorem imm_ownT {ow} : isImm (ownD true ow) = false := by unfold ownD; rfl
@[simp] theorem imm_houT {h L} : isImm (houD true h L) = false := by unfold houD; simp
def bitsL (h bits : Nat) : List Nat := (List.range h).filter fun j => bits.testBit j
theorem own_bits {h bits : Nat} (h0 : bits ≠ 0) (h1 : bits < 2 ^ h) : Own h (bitsL h bits) := by
  refine ⟨fun e => ?_, (List.pairwise_lt_range).filter _, fun x hx => by
    unfold bitsL at hx; rw [List.mem_filter, List.mem_range] at hx; exact hx.1⟩
  obtain ⟨i, hi⟩ := Nat.exists_testBit_of_ne_zero h0
  have hih : i < h := by
    refine Nat.lt_of_not_le fun hle => ?_
    have : bits < 2 ^ i := Nat.lt_of_lt_of_le h1 (Nat.pow_le_pow_right (by omega) hle)
    rw [Nat.testBit_lt_two_pow this] at hi
    cases hi
  have : i ∈ bitsL h bits := by unfold bitsL; rw [List.mem_filter, List.mem_range]; exact ⟨hih, hi⟩
  rw [e] at this
  exact absurd this (by simp)
theorem abc_eq : (Str.ofString "abcdefghijklmnopqrstuvwxyz").cps.toList = (List.range 26).map (97 + ·) := by decide +kernel
theorem abc_len : (Str.ofString "abcdefghijklmnopqrstuvwxyz").length ≤ sizeLine := by decide +kernel
theorem abc_ix {i : Nat} (h : i < 26) : gIx (.str (Str.ofString "abcdefghijklmnopqrstuvwxyz")) (.int (i : Int)) = some (.str (sg i)) := by
  show (if (Str.ofString "abcdefghijklmnopqrstuvwxyz").length ≤ sizeLine then (atI (Str.ofString "abcdefghijklmnopqrstuvwxyz").cps.toList (i : Int)).map fun c => D.str ⟨#[c]⟩ else none) = _
  rw [if_pos abc_len, at_nat, abc_eq, List.getElem?_map, List.getElem?_range h]
  rfl
theorem house_lc {g v2 v3 v4 v5 v6 : Option D} {h bits : Nat} (hh : h ≤ 4) :
    fLc (fItN rng1 (fCons (fVar 1) fNil)) (gN 8) (fTv (vOp2 gEq (vOp2 gBand (vOp2 gShr (vVar 7) (vVar 8)) (vK (.int 1))) (vK (.int 1)))) (fVar 8) [8] [g, some (.int (h : Int)), v2, v3, v4, v5, v6, some (.int (bits : Int)), none]
      = .ok (ownD true (bitsL h bits)) [g, some (.int (h : Int)), v2, v3, v4, v5, v6, some (.int (bits : Int)), none] := by
  unfold ownD bitsL
  refine lc_map (g := fun i => .int ((i : Nat) : Int)) (p := fun j => bits.testBit j) ?_ ?_ ?_ ?_
  · simp [rng1_n (n := h) (by omega)]
  · simp
  · rw [List.length_range]; unfold sizeLine; omega
  · intro j hj
    let ρ : Ev := [g, some (.int (h : Int)), v2, v3, v4, v5, v6, some (.int (bits : Int)), some (.int (j : Int))]
    refine ⟨ρ, rfl, ρ, ?_, fun _ => ⟨ρ, rfl, rfl⟩, fun _ => rfl⟩
    have e1 : (bits : Int) / 2 ^ j = ((bits >>> j : Nat) : Int) := by rw [Nat.shiftRight_eq_div_pow]; norm_cast
    have e2 : Builtin.bitAnd ((bits >>> j : Nat) : Int) 1 = (((bits >>> j) &&& 1 : Nat) : Int) := band_nn _ 1
    simp [ρ, e1, e2, -Nat.and_one_is_mod]
    rw [Bool.eq_iff_iff]
    simp only [decide_eq_true_eq]
    exact test_1 bits j
theorem bor_pow (a b : Nat) : Builtin.bitOr ((2 : Int) ^ a) (2 ^ b) = ((2 ^ a ||| 2 ^ b : Nat) : Int) := by
  have := bor_nn (2 ^ a) (2 ^ b)
  rw [← this]; congr 1 <;> norm_cast
theorem cpow1 {j : Nat} (h : j < 100) : CPow 1 (j : Int) := cpow_small 1 j (by omega) (by decide)
theorem pow_h {h : Nat} (h2 : 2 ≤ h) (h4 : h ≤ 4) : (4 : Int) ≤ 2 ^ h ∧ (2 : Int) ^ h ≤ 16 := by
  have : h = 2 ∨ h = 3 ∨ h = 4 := by omega
  rcases this with rfl | rfl | rfl <;> decide
/-- the state of _law_house's loop -/
structure HLoop (n0 h many few k : Nat) (ρ : Ev) : Prop where
  ex : ∃ (g : D) (at_ : Nat) (L : List (Nat × List Nat)) (v6 v7 : Option D), ρ = [some g, some (.int (h : Int)), some (.int (many : Int)), some (.int (few : Int)), some (.lst true (L.map (entD true))), some (.int (at_ : Int)), v6, v7, none] ∧
    Bag (n0 + 4 * k) g ∧ L.length = k ∧ at_ + many ≤ 26 + k ∧ (L.Pairwise fun e f => e.1 < f.1) ∧ ∀ e ∈ L, e.1 < at_ ∧ Own h e.2
def house_tail : Ev → RS := (fSeq (fAppend 4 (fCons (fTup (fCons (fI (vOp2 gIx (vK (.str "abcdefghijklmnopqrstuvwxyz")) (vVar 5))) (fCons (fLc (fItN rng1 (fCons (fVar 1) fNil)) (gN 8) (fTv (vOp2 gEq (vOp2 gBand (vOp2 gShr (vVar 7) (vVar 8)) (vK (.int 1))) (vK (.int 1)))) (fVar 8) [8]) fNil))) fNil))
    (fAsg (fI (vOp2 gAdd (vVar 5) (vK (.int 1)))) (gN 5)))
theorem house_body : l__law_house_1 = fSeq (fAsg (fOp2 gAdd (fVar 5) (fCallIO 0 2 m__law_take (fCons (fI (vOp2 gSub (vOp2 gAdd (vOp2 gSub (vK (.int 27)) (vVar 2)) (vVar 6)) (vVar 5))) fNil))) (gN 5))
    (fSeq (fAsg (fOp2 gAdd (fK (.int 1)) (fCallIO 0 2 m__law_take (fCons (fI (vOp2 gSub (vOp2 gShl (vK (.int 1)) (vVar 1)) (vK (.int 1)))) fNil))) (gN 7))
    (fSeq (fIf (fTv (vOp2 gEq (vVar 3) (vK (.int 1))))
    (fAsg (fOp2 gBor (fOp2 gShl (fK (.int 1)) (fCallIO 0 2 m__law_take (fCons (fVar 1) fNil))) (fOp2 gShl (fK (.int 1)) (fCallIO 0 2 m__law_take (fCons (fVar 1) fNil)))) (gN 7))
    fNext) house_tail)) := rfl
theorem house_turn {n0 h many few k : Nat} {ρ : Ev} (h2 : 2 ≤ h) (h4 : h ≤ 4) (hm : many ≤ 6) (hn0 : n0 < 2 ^ 59) (hk : k < many) (I : HLoop n0 h many few k ρ) : ∃ ρ', stepS (gN 6) l__law_house_1 (.int (k : Int)) ρ = .nx ρ' ∧ HLoop n0 h many few (k + 1) ρ' := by
  obtain ⟨g, at_, L, v6, v7, rfl, hb, hl, ha, hp, ho⟩ := I.ex
  obtain ⟨r1, g1, hr1, hb1, t1⟩ := take_spec (m := 27 - (many : Int) + (k : Int) - (at_ : Int)) hb (by omega) (by omega) (by omega)
  obtain ⟨p1, p2⟩ := pow_h h2 h4
  obtain ⟨r2, g2, hr2, hb2, t2⟩ := take_spec (m := (2 : Int) ^ h - 1) hb1 (by omega) (by omega) (by omega)
  have hat : at_ + r1 < 26 := by omega
  have cp := cpow1 (j := h) (by omega)
  obtain ⟨A, hA⟩ : ∃ A, A = at_ + r1 := ⟨_, rfl⟩
  have hsum : (at_ : Int) + (r1 : Int) = (A : Int) := by omega
  rw [← hA] at hat
  -- the part behind the bits
  have tail : ∀ (g3 : D) (bits : Nat), Bag (n0 + 4 * (k + 1)) g3 → bits ≠ 0 → bits < 2 ^ h →
      ∃ ρ', house_tail [some g3, some (.int (h : Int)), some (.int (many : Int)), some (.int (few : Int)), some (.lst true (L.map (entD true))), some (.int ((A : Nat) : Int)), some (.int (k : Int)), some (.int (bits : Int)), none] = .nx ρ' ∧ HLoop n0 h many few (k + 1) ρ' := by
    intro g3 bits hb3 b0 b1
    refine ⟨[some g3, some (.int (h : Int)), some (.int (many : Int)), some (.int (few : Int)), some (.lst true ((L ++ [(A, bitsL h bits)]).map (entD true))), some (.int ((A + 1 : Nat) : Int)), some (.int (k : Int)), some (.int (bits : Int)), none], ?_, ⟨g3, A + 1, L ++ [(A, bitsL h bits)], _, _, rfl, hb3, by simp [hl], by omega, ?_, ?_⟩⟩
    · unfold house_tail
      have hs : L.length < sizeLine := by unfold sizeLine; omega
      have hs2 : 2 ≤ sizeLine := by decide
      have i5 := abc_ix hat
      simp only [ap_seq, ap_append, ap_cons, ap_tup, ap_I, ap_v2, ap_vk, ap_vvar, List.getElem?_cons_succ, List.getElem?_cons_zero, varV_s, isLs_s, Option.bind_some, i5, immR_s, imm_str, if_true, bind_ok, house_lc h4, ap_nil, rsof_ok, one1_s, appS_s, List.length_map, hs, hs2, List.length_cons, List.length_nil, seq_nx, ap_asg, add_ii, imm_int, tgR_s, ap_gN, List.set_cons_succ, List.set_cons_zero, List.map_append, List.map_cons, List.map_nil]
      rfl
    · rw [List.pairwise_append]
      refine ⟨hp, by simp, fun e he f hf => ?_⟩
      rw [List.mem_singleton] at hf; subst hf
      exact Nat.lt_of_lt_of_le (ho e he).1 (by omega)
    · intro e he
      rcases List.mem_append.mp he with he | he
      · exact ⟨by have := (ho e he).1; omega, (ho e he).2⟩
      · rw [List.mem_singleton] at he; subst he
        exact ⟨by show A < _; omega, own_bits b0 b1⟩
  obtain ⟨B, hB⟩ : ∃ B, B = 1 + r2 := ⟨_, rfl⟩
  have e2 : (1 : Int) + (r2 : Int) = (B : Int) := by omega
  by_cases hf : few = 1
  · subst hf
    obtain ⟨r3, g3, hr3, hb3, t3⟩ := take_spec (m := (h : Int)) hb2 (by omega) (by omega) (by omega)
    obtain ⟨r4, g4, hr4, hb4, t4⟩ := take_spec (m := (h : Int)) hb3 (by omega) (by omega) (by omega)
    obtain ⟨C, hC⟩ : ∃ C, C = 2 ^ r3 ||| 2 ^ r4 := ⟨_, rfl⟩
    have hbor := bor_pow r3 r4
    rw [← hC] at hbor
    have hbits : 2 ^ r3 ||| 2 ^ r4 < 2 ^ h := Nat.or_lt_two_pow (Nat.pow_lt_pow_right (by omega) (by omega)) (Nat.pow_lt_pow_right (by omega) (by omega))
    have hnz : 2 ^ r3 ||| 2 ^ r4 ≠ 0 := by
      intro e
      have h1 : (2 ^ r3 ||| 2 ^ r4).testBit r3 = true := by rw [Nat.testBit_or, Nat.testBit_two_pow_self]; rfl
      rw [e] at h1; simp at h1
    obtain ⟨ρ', e, I'⟩ := tail g4 C (hb4.mono (by omega)) (hC ▸ hnz) (hC ▸ hbits)
    refine ⟨ρ', ?_, I'⟩
    rw [ap_step, ← e]
    rw [house_body]
    simp [-ap_append, -ap_lst, t1, t2, t3, t4, cp, cpow1 (j := r3) (by omega), cpow1 (j := r4) (by omega), hsum, e2, hbor]
  · have hbits : B < 2 ^ h := by
      have : ((2 : Nat) ^ h : Int) = 2 ^ h := by norm_cast
      have : ((2 ^ h : Nat) : Int) = 2 ^ h := by norm_cast
      omega
    obtain ⟨ρ', e, I'⟩ := tail g2 B (hb2.mono (by omega)) (by omega) hbits
    refine ⟨ρ', ?_, I'⟩
    have hf' : ¬ (few : Int) = 1 := by omega
    rw [ap_step, ← e]
    rw [house_body]
    simp [-ap_append, -ap_lst, t1, t2, cp, hsum, e2, hf']
section
variable {o : Bool} {h : Nat} {L : List (Nat × List Nat)} {e : Nat × List Nat} {ow : List Nat}
@[simp] theorem hou_ix0 : gIx (houD o h L) (.int 0) = some (.int (h : Int)) := by unfold houD; simp
@[simp] theorem hou_ix1 : gIx (houD o h L) (.int 1) = some (.lst o (L.map (entD o))) := by unfold houD; simp
@[simp] theorem ent_ix0 : gIx (entD o e) (.int 0) = some (.str (sg e.1)) := by unfold entD; simp
@[simp] theorem ent_ix1 : gIx (entD o e) (.int 1) = some (ownD o e.2) := by unfold entD; simp
@[simp] theorem frzs_ents : frzs (L.map (entD o)) = L.map (entD false) := frzs_mapf fun _ _ => frz_ent
@[simp] theorem imms_ents : isImms (L.map (entD false)) = true := imms_map fun _ _ => imm_ent
@[simp] theorem frzs_nats : frzs (ow.map natD) = ow.map natD := frzs_mapf fun _ _ => rfl
@[simp] theorem imms_nats : isImms (ow.map natD) = true := imms_map fun _ _ => rfl
end
@[simp] theorem fLst_nil {ρ : Ev} : fLst fNil ρ = .ok (.lst true []) ρ := rfl
theorem house_spec {n : Nat} {g : D} (hb : Bag n g) (hn : n < 2 ^ 58) : ∃ (g' : D) (h : Nat) (L : List (Nat × List Nat)), Bag (n + 30) g' ∧ House h L ∧ m__law_house [g] = .rt (houD true h L) [some g'] := by
  obtain ⟨r1, g1, hr1, hb1, t1⟩ := take_spec (m := 3) hb (by omega) (by omega) (by omega)
  obtain ⟨r2, g2, hr2, hb2, t2⟩ := take_spec (m := 6) hb1 (by omega) (by omega) (by omega)
  obtain ⟨r3, g3, hr3, hb3, t3⟩ := take_spec (m := 2) hb2 (by omega) (by omega) (by omega)
  obtain ⟨h, hh⟩ : ∃ h, h = 2 + r1 := ⟨_, rfl⟩
  obtain ⟨many, hm⟩ : ∃ m, m = 1 + r2 := ⟨_, rfl⟩
  have e1 : (2 : Int) + (r1 : Int) = (h : Int) := by omega
  have e2 : (1 : Int) + (r2 : Int) = (many : Int) := by omega
  obtain ⟨ρ', lp, I⟩ := loopR (step := stepS (gN 6) l__law_house_1) (n := many) (ρ := [some g3, some (.int (h : Int)), some (.int (many : Int)), some (.int (r3 : Int)), some (.lst true []), some (.int 0), none, none, none])
    (HLoop (n + 3) h many r3) ⟨g3, 0, [], _, _, rfl, hb3, rfl, by omega, .nil, fun e he => absurd he (by simp)⟩
    fun j ρ hj I => house_turn (by omega) (by omega) (by omega) (by omega) hj I
  obtain ⟨g', at_, L, v6, v7, rfl, hb', hl, ha, hp, ho⟩ := I.ex
  refine ⟨g', h, L, hb'.mono (by omega), ⟨by omega, by omega, by omega, by omega, hp, fun e he => by have := (ho e he).1; omega, fun e he => (ho e he).2⟩, ?_⟩
  unfold m__law_house
  rw [semOf_ap]
  unfold b__law_house
  have hs2 : 2 ≤ sizeLine := by decide
  simp [t1, t2, t3, e1, e2, rng1_n (n := many) (by omega), lp, hs2]
  cases L with
  | nil => simp at hl; omega
  | cons e L => simp [houD, entD, ownD]
def rowS (R : List Nat) : Str := ⟨(R.map (97 + ·)).toArray⟩
@[simp] theorem rowS_len (R : List Nat) : (rowS R).length = R.length := by
  show (rowS R).cps.size = _
  simp [rowS]
@[simp] theorem sg_len (l : Nat) : (sg l).length = 1 := rfl
def RowOk (L : List (Nat × List Nat)) (R : List Nat) : Prop := ∀ r ∈ R, ∃ e ∈ L, e.1 = r
theorem rowS_nil : Str.ofString "" = rowS [] := by decide +kernel
theorem whole_spec (i : Int) : m_is_whole [.int i] = .rt (.bl true) [none] := by
  unfold m_is_whole; rw [semOf_ap]; unfold b_is_whole; simp
theorem rising_spec {h : Nat} {ow : List Nat} (hr : ow.Pairwise (· < ·)) (hl : ∀ x ∈ ow, x < h) : m_is_rising [ownD false ow, .int (h : Int)] = .rt (.bl true) [none, none] := by
  obtain ⟨ρ', lp, I⟩ := loopL (step := stepS (gN 3) l_is_rising_1) (f := natD) (fun xs ρ => ∃ (a : Int) (v3 : Option D), ρ = [some (ownD false ow), some (.int (h : Int)), some (.int a), v3] ∧ xs.Pairwise (· < ·) ∧ ∀ x ∈ xs, a < (x : Int) ∧ x < h)
    ow [some (ownD false ow), some (.int (h : Int)), some (.int (-1)), none] ⟨-1, none, rfl, hr, fun x hx => ⟨by omega, hl x hx⟩⟩ (by
      rintro x xs ρ ⟨a, v3, rfl, hp, hx⟩
      obtain ⟨h1, h2⟩ := hx x List.mem_cons_self
      rw [List.pairwise_cons] at hp
      refine ⟨[some (ownD false ow), some (.int (h : Int)), some (.int (x : Int)), some (.int (x : Int))], ?_, x, _, rfl, hp.2, fun y hy => ⟨by have := hp.1 y hy; omega, (hx y (List.mem_cons_of_mem _ hy)).2⟩⟩
      rw [ap_step]
      unfold l_is_rising_1 natD
      have h2' : (x : Int) < (h : Int) := by omega
      simp [whole_spec, h1, h2])
  obtain ⟨a, v3, rfl, _, _⟩ := I
  unfold m_is_rising; rw [semOf_ap]; unfold b_is_rising
  unfold ownD at lp ⊢
  simp [lp]
theorem abc_in {l : Nat} (h : l < 26) : gIn (.str (sg l)) (.str (Str.ofString "abcdefghijklmnopqrstuvwxyz")) = some (.bl true) := by
  show (some (decide ((97 + l) ∈ (Str.ofString "abcdefghijklmnopqrstuvwxyz").cps.toList))).map D.bl = _
  rw [abc_eq, decide_eq_true]
  · rfl
  · rw [List.mem_map]; exact ⟨l, List.mem_range.mpr h, rfl⟩
theorem sign_spec {l : Nat} (h : l < 26) : m_is_sign [.str (sg l)] = .rt (.bl true) [none] := by
  have hs : 1 ≤ sizeLine := by decide
  unfold m_is_sign; rw [semOf_ap]; unfold b_is_sign; simp [abc_in h, hs]
theorem entry_spec {h : Nat} {e : Nat × List Nat} (hl : e.1 < 26) (ho : Own h e.2) : m_is_entry [entD false e, .int (h : Int)] = .rt (.bl true) [none, none] := by
  have hr := rising_spec ho.rise ho.lt
  have hlen : (0 : Int) < (e.2.length : Int) := by
    have := List.length_pos_iff.mpr ho.ne; omega
  have i0 := imm_own (ow := e.2)
  unfold ownD at hr i0
  unfold m_is_entry; rw [semOf_ap]; unfold b_is_entry entD ownD
  have hg : gGt (.int (e.2.length : Int)) (.int 0) = some (.bl true) := by rw [gt_ii, decide_eq_true hlen]
  simp [sign_spec hl, hr, hlen, List.length_pos_iff, ho.ne]
theorem sg_lt {a b : Nat} (h : a < b) : gLt (.str (sg a)) (.str (sg b)) = some (.bl true) := by
  rw [lt_ss, decide_eq_true]
  show [97 + a] < [97 + b]
  exact List.cons_lt_cons_iff.mpr (.inl (by omega))
theorem nil_lt {a : Nat} : gLt (.str (Str.ofString "")) (.str (sg a)) = some (.bl true) := by
  rw [lt_ss, decide_eq_true]
  rw [show (Str.ofString "").cps.toList = [] from by decide +kernel]
  exact List.Lex.nil
theorem ishouse_spec {h : Nat} {L : List (Nat × List Nat)} (H : House h L) : m_is_house [houD false h L] = .rt (.bl true) [none] := by
  obtain ⟨ρ', lp, I⟩ := loopL (step := stepS (gN 4) l_is_house_1) (f := entD false) (fun xs ρ => ∃ (a : Str) (v4 : Option D), ρ = [some (houD false h L), some (.int (h : Int)), some (.lst false (L.map (entD false))), some (.str a), v4] ∧ (xs.Pairwise fun e f => e.1 < f.1) ∧ ∀ e ∈ xs, gLt (.str a) (.str (sg e.1)) = some (.bl true) ∧ e.1 < 26 ∧ Own h e.2)
    L [some (houD false h L), some (.int (h : Int)), some (.lst false (L.map (entD false))), some (.str (Str.ofString "")), none] ⟨_, none, rfl, H.rise, fun e he => ⟨nil_lt, H.lt e he, H.own e he⟩⟩ (by
      rintro e xs ρ ⟨a, v4, rfl, hp, hx⟩
      obtain ⟨h1, h2, h3⟩ := hx e List.mem_cons_self
      rw [List.pairwise_cons] at hp
      refine ⟨[some (houD false h L), some (.int (h : Int)), some (.lst false (L.map (entD false))), some (.str (sg e.1)), some (entD false e)], ?_, _, _, rfl, hp.2, fun f hf => ⟨sg_lt (hp.1 f hf), (hx f (List.mem_cons_of_mem _ hf)).2⟩⟩
      rw [ap_step]
      unfold l_is_house_1
      simp [entry_spec h2 h3, h1, -lt_ss])
  obtain ⟨a, v3, rfl, _, _⟩ := I
  unfold m_is_house; rw [semOf_ap]; unfold b_is_house
  have h2 := H.h2; have h4 := H.h4; have l1 := H.l1; have l6 := H.l6
  have c1 : (2 : Int) ≤ (h : Int) := by omega
  have c2 : (h : Int) ≤ 4 := by omega
  have c3 : (1 : Int) ≤ (L.length : Int) := by omega
  have c4 : (L.length : Int) ≤ 6 := by omega
  unfold houD at lp ⊢
  simp [whole_spec, c1, c2, c3, c4, lp]
theorem look_spec {h : Nat} {L : List (Nat × List Nat)} (H : House h L) : m_look_house [houD false h L] = .rt .non [none] := by
  unfold m_look_house; rw [semOf_ap]; unfold b_look_house; simp [ishouse_spec H]
def sgD (l : Nat) : D := .str (sg l)
@[simp] theorem frz_sgD {l} : frz (sgD l) = sgD l := rfl
@[simp] theorem imm_sgD {l} : isImm (sgD l) = true := rfl
theorem sg_inj {a b : Nat} : sg a = sg b ↔ a = b := by
  constructor
  · intro h
    have : (#[97 + a] : Array Nat) = #[97 + b] := congrArg Str.cps h
    simp at this; exact this
  · intro h; rw [h]
theorem eqd_sg : EqD sgD := fun x y => by
  simp only [sgD, toPy, PyData.eqv]
  by_cases h : x = y
  · simp [h]
  · have : ¬ sg x = sg y := fun e => h (sg_inj.mp e)
    simp [h, this]
theorem sh_sg {l n : Nat} (h : l < 26) : Sh n (sgD l) := sh_str fun c hc => by
  simp [sg] at hc; omega
theorem letters_spec {h : Nat} {L : List (Nat × List Nat)} (hl : L.length ≤ 6) : m_letters_of [houD false h L] = .rt (.lst true (L.map fun e => sgD e.1)) [none] := by
  have lc : fLc (fIt itemsL (fI (vOp2 gIx (vVar 0) (vK (.int 1))))) (gT 2 (gsC (gN 1) (gsC (gN 2) gsN))) fYes (fVar 1) [1, 2] [some (houD false h L), none, none] = .ok (.lst true (L.map fun e => sgD e.1)) [some (houD false h L), none, none] := by
    refine lc_all (g := entD false) (by simp) (by simp) (by unfold sizeLine; omega) fun e _ => ?_
    refine ⟨[some (houD false h L), some (sgD e.1), some (ownD false e.2)], ?_, [some (houD false h L), some (sgD e.1), some (ownD false e.2)], ?_, ?_⟩
    · simp [entD]; rfl
    · simp
    · simp
  unfold m_letters_of; rw [semOf_ap]; unfold b_letters_of; simp [lc]
theorem strD_row (R : List Nat) : strD (rowS R) = R.map sgD := by
  unfold strD rowS; simp [sgD, sg]
theorem isrow_spec {h : Nat} {L : List (Nat × List Nat)} {R : List Nat} (H : House h L) (hR : RowOk L R) (hl : R.length ≤ sizeLine) : m_is_row [houD false h L, .str (rowS R)] = .rt (.bl true) [none, none] := by
  have lc : fLc (fIt itemsS (fVar 1)) (gN 2) fYes (fOp2L gIn 2 (fCall 1 m_letters_of (fCons (fVar 0) fNil))) [2] [some (houD false h L), some (.str (rowS R)), none] = .ok (.lst true (R.map fun r => .bl (decide (r ∈ L.map (·.1))))) [some (houD false h L), some (.str (rowS R)), none] := by
    refine lc_all (g := sgD) (by simp [strD_row]) (by simp) hl fun r hr => ?_
    obtain ⟨e, he, rfl⟩ := hR r hr
    have hin : gIn (sgD e.1) (.lst true (L.map fun e => sgD e.1)) = some (.bl (decide (e.1 ∈ L.map (·.1)))) := by
      have := in_map (f := sgD) (o := true) (xs := L.map (·.1)) (z := e.1) eqd_sg (sh_sg (H.lt e he)) fun x hx => by obtain ⟨f, hf, rfl⟩ := List.mem_map.mp hx; exact sh_sg (H.lt f hf)
      rwa [List.map_map] at this
    refine ⟨[some (houD false h L), some (.str (rowS R)), some (sgD e.1)], by simp, [some (houD false h L), some (.str (rowS R)), some (sgD e.1)], ?_, by simp⟩
    simp [letters_spec H.l6, hin, -List.mem_map]
  have hall : R.all (fun r => decide (r ∈ L.map (·.1))) = true := by
    rw [List.all_eq_true]; intro r hr; obtain ⟨e, he, rfl⟩ := hR r hr
    exact decide_eq_true (List.mem_map.mpr ⟨e, he, rfl⟩)
  have hga := all_map_bl (o := true) (fun r => decide (r ∈ L.map (·.1))) R
  rw [hall] at hga
  unfold m_is_row; rw [semOf_ap]; unfold b_is_row
  simp only [List.length_cons, List.length_nil]
  simp [look_spec H, lc, hga, -all_l, -List.mem_map]
def cellM (ns : List Int) (k : Nat) : Int := (ns[k]?).getD 0
theorem cell_spec (ns : List Int) (k : Nat) : m__law_cell [.rol (ns.map D.int), .int (k : Int)] = .rt (.int (cellM ns k)) [none, none] := by
  unfold m__law_cell; rw [semOf_ap]; unfold b__law_cell cellM
  by_cases h : k < ns.length
  · simp [h, at_nat]
  · simp [h]
end M
namespace M
open PySem PySem.Spec PyProof.Rows L2 Hap
def ow (L : List (Nat × List Nat)) (l : Nat) : List Nat := ((L.find? fun e => e.1 == l).map (·.2)).getD []
theorem ow_mem {L : List (Nat × List Nat)} (h : L.Pairwise fun e f => e.1 < f.1) {e : Nat × List Nat} (he : e ∈ L) : ow L e.1 = e.2 := by
  unfold ow
  induction L with
  | nil => cases he
  | cons a L ih =>
    rw [List.pairwise_cons] at h
    rw [List.find?_cons]
    rcases List.mem_cons.mp he with rfl | he
    · simp
    · have : ¬ a.1 = e.1 := Nat.ne_of_lt (h.1 e he)
      rw [show (a.1 == e.1) = false by simpa using this]
      exact ih h.2 he
/-- they share a hand -/
def Hang (L : List (Nat × List Nat)) (a b : Nat) : Prop := ∃ x, x ∈ ow L a ∧ x ∈ ow L b
inductive Reach (H : Nat → Nat → Prop) : Nat → Nat → Prop
  | refl (i) : Reach H i i
  | tail {i p k} : Reach H i p → p < k → H p k → Reach H i k
theorem Reach.le {H : Nat → Nat → Prop} {i k : Nat} (h : Reach H i k) : i ≤ k := by
  induction h with
  | refl => exact Nat.le_refl _
  | tail _ l _ ih => omega
theorem Reach.trans {H : Nat → Nat → Prop} {i p k : Nat} (h : Reach H i p) (r : Reach H p k) : Reach H i k := by
  induction r with
  | refl => exact h
  | tail _ l h2 ih => exact .tail ih l h2
theorem Reach.tail_iff {H : Nat → Nat → Prop} {i k : Nat} : Reach H i k ↔ i = k ∨ ∃ p, p < k ∧ H p k ∧ Reach H i p := by
  constructor
  · intro h
    cases h with
    | refl => exact .inl rfl
    | tail r l h => exact .inr ⟨_, l, h, r⟩
  · rintro (rfl | ⟨p, l, h, r⟩)
    · exact .refl _
    · exact .tail r l h
/-- the row's letter at a place -/
def lt (R : List Nat) (i : Nat) : Nat := (R[i]?).getD 0
/-- the place i lies below the place j -/
def Below (L : List (Nat × List Nat)) (R : List Nat) (i j : Nat) : Prop := Reach (fun p k => Hang L (lt R p) (lt R k)) i j
@[simp] theorem frz_natD {x} : frz (natD x) = natD x := rfl
@[simp] theorem imm_natD {x} : isImm (natD x) = true := rfl
theorem fold_bit (last : Nat → Nat) (i : Nat) : ∀ (ows : List Nat) (b : Nat), (ows.foldl (fun b x => b ||| last x) b).testBit i = (b.testBit i || ows.any fun x => (last x).testBit i)
  | [], b => by simp
  | x :: xs, b => by rw [List.foldl_cons, fold_bit last i xs, Nat.testBit_or, List.any_cons, Bool.or_assoc]
section
variable {h : Nat} {L : List (Nat × List Nat)} {R : List Nat}
/-- what stands behind k places -/
structure BI (L : List (Nat × List Nat)) (R : List Nat) (k : Nat) (Bs : List Nat) (last : Nat → Nat) : Prop where
  len : Bs.length = k
  bs : ∀ (j b : Nat), Bs[j]? = some b → ∀ i, b.testBit i = true ↔ Below L R i j
  la : ∀ x i, (last x).testBit i = true ↔ ∃ p, p < k ∧ x ∈ ow L (lt R p) ∧ Below L R i p
theorem BI.bits {k : Nat} {Bs : List Nat} {last : Nat → Nat} (I : BI L R k Bs last) (i : Nat) : ((ow L (lt R k)).foldl (fun b x => b ||| last x) (2 ^ k)).testBit i = true ↔ Below L R i k := by
  rw [fold_bit, Bool.or_eq_true, Nat.testBit_two_pow, List.any_eq_true]
  unfold Below
  rw [Reach.tail_iff]
  constructor
  · rintro (e | ⟨x, hx, hb⟩)
    · exact .inl (of_decide_eq_true e).symm
    · obtain ⟨p, hp, hxp, hr⟩ := (I.la x i).mp hb
      exact .inr ⟨p, hp, ⟨x, hxp, hx⟩, hr⟩
  · rintro (e | ⟨p, hp, ⟨x, hxp, hx⟩, hr⟩)
    · exact .inl (decide_eq_true e.symm)
    · exact .inr ⟨x, hx, (I.la x i).mpr ⟨p, hp, hxp, hr⟩⟩
theorem BI.next {k : Nat} {Bs : List Nat} {last : Nat → Nat} (I : BI L R k Bs last) {b : Nat} (hb : b = (ow L (lt R k)).foldl (fun b x => b ||| last x) (2 ^ k)) : BI L R (k + 1) (Bs ++ [b]) (fun x => if x ∈ ow L (lt R k) then b else last x) := by
  have hbit := I.bits
  rw [← hb] at hbit
  refine ⟨by simp [I.len], fun j c hj i => ?_, fun x i => ?_⟩
  · by_cases h1 : j < k
    · rw [List.getElem?_append_left (by rw [I.len]; exact h1)] at hj
      exact I.bs j c hj i
    · rw [List.getElem?_append_right (by rw [I.len]; omega), I.len] at hj
      have : j = k := by
        have := (List.getElem?_eq_some_iff.mp hj).1
        simp at this; omega
      subst this
      simp at hj; subst hj
      exact hbit i
  · by_cases hx : x ∈ ow L (lt R k)
    · rw [if_pos hx, hbit]
      constructor
      · intro hr; exact ⟨k, by omega, hx, hr⟩
      · rintro ⟨p, hp, hxp, hr⟩
        by_cases e : p = k
        · subst e; exact hr
        · exact .tail hr (by omega) ⟨x, hxp, hx⟩
    · rw [if_neg hx, I.la]
      constructor
      · rintro ⟨p, hp, hxp, hr⟩; exact ⟨p, by omega, hxp, hr⟩
      · rintro ⟨p, hp, hxp, hr⟩
        refine ⟨p, ?_, hxp, hr⟩
        have : p ≠ k := fun e => by subst e; exact hx hxp
        omega
end
theorem rise_len : ∀ (l : List Nat) (lo h : Nat), l.Pairwise (· < ·) → (∀ x ∈ l, lo ≤ x ∧ x < h) → l.length ≤ h - lo
  | [], _, _, _, _ => by simp
  | x :: l, lo, h, hp, hx => by
    rw [List.pairwise_cons] at hp
    have h1 := hx x List.mem_cons_self
    have := rise_len l (x + 1) h hp.2 fun y hy => ⟨hp.1 y hy, (hx y (List.mem_cons_of_mem _ hy)).2⟩
    rw [List.length_cons]; omega
section
variable {h : Nat} {L : List (Nat × List Nat)} {o o' : Bool}
theorem sh_own {ows : List Nat} : Sh 1 (ownD o ows) := sh_lst fun d hd => by
  obtain ⟨x, _, rfl⟩ := List.mem_map.mp hd; exact sh_int
theorem sh_ent {e : Nat × List Nat} (hl : e.1 < 26) : Sh 2 (entD o e) := sh_tup fun d hd => by
  rcases List.mem_cons.mp hd with rfl | hd
  · exact sh_sg hl
  · rcases List.mem_cons.mp hd with rfl | hd
    · exact sh_own
    · cases hd
theorem sh_hou (hl : ∀ e ∈ L, e.1 < 26) : Sh 4 (houD o h L) := sh_tup fun d hd => by
  rcases List.mem_cons.mp hd with rfl | hd
  · exact sh_int
  · rcases List.mem_cons.mp hd with rfl | hd
    · refine sh_lst fun d hd => ?_
      obtain ⟨e, he, rfl⟩ := List.mem_map.mp hd; exact sh_ent (hl e he)
    · cases hd
end
@[simp] theorem frzs_ints {ns : List Int} : frzs (ns.map D.int) = ns.map D.int := frzs_mapf fun _ _ => rfl
end M
namespace M
open PySem PySem.Spec PyProof.Rows L2 Hap
def b__law_whole : Ev → RS :=
  (fRet (fAndD (fI (vOpN gIsi (vCons (vVar 0) (vCons (vK (.gv (.ty "int"))) vNil)))) (fNotD (fI (vOpN gIsi (vCons (vVar 0) (vCons (vK (.gv (.ty "bool"))) vNil)))))))
def m__law_whole : Fn := semOf (List.replicate 1 false) 1 b__law_whole
end M
namespace M
open PySem PySem.Spec PyProof.Rows L2 Hap
def see (L : List (Nat × List Nat)) (x : Nat) (R : List Nat) : List Nat := R.filter fun r => decide (x ∈ ow L r)
theorem join_sg : ∀ R : List Nat, Str.join (Str.ofString "") (R.map sg) = rowS R
  | [] => by decide +kernel
  | [a] => by simp [Str.join, rowS, sg]
  | a :: b :: R => by
    have ih := join_sg (b :: R)
    rw [List.map_cons] at ih
    have e : Str.ofString "" = ⟨#[]⟩ := by decide +kernel
    rw [List.map_cons, List.map_cons, Str.join, ih, e]
    · show (⟨(#[97 + a] ++ #[]) ++ (rowS (b :: R)).cps⟩ : Str) = _
      simp [rowS]
    · simp
theorem strsD_sg : ∀ R : List Nat, strsD (R.map sgD) = some (R.map sg)
  | [] => rfl
  | r :: R => by
    rw [List.map_cons, sgD, strsD, strsD_sg R]; rfl
theorem len_sgs (R : List Nat) : ((R.map sg).map (·.length)).sum = R.length := by
  induction R with
  | nil => rfl
  | cons r R ih => simp only [List.map_cons, List.sum_cons, ih, sg_len, List.length_cons]; omega
theorem join_row {o : Bool} {R : List Nat} (hl : R.length ≤ 1000) : gJoin (.str (Str.ofString "")) (.lst o (R.map sgD)) = some (.str (rowS R)) := by
  have z : (Str.ofString "").length = 0 := by decide +kernel
  unfold gJoin
  simp only [lstOf_l, Option.bind_some, strsD_sg]
  rw [if_pos (by rw [len_sgs, z]; omega)]
  show some (D.str (Builtin.Str.glued _ _)) = _
  rw [StrLaws.glued_eq_join, join_sg]
def joinR (d : D) (k : R D) : R D := match d with
  | .str _ => k
  | _ => .stk
@[simp] theorem joinR_s {x : Str} {k : R D} : joinR (.str x) k = k := (rfl)
@[simp] theorem ap_join {f g : Ev → R D} {ρ : Ev} : fJoin f g ρ = (f ρ).bind fun d ρ1 => joinR d ((g ρ1).bind fun e ρ2 => R.of (gJoin d e) ρ2) := by
  unfold fJoin joinR; rfl
section
variable {h : Nat} {L : List (Nat × List Nat)} {R R' : List Nat}
theorem ow_of_mem (H : House h L) {r x : Nat} : x ∈ ow L r ↔ ∃ e ∈ L, e.1 = r ∧ x ∈ e.2 := by
  constructor
  · intro hx
    unfold ow at hx
    cases hf : L.find? fun e => e.1 == r with
    | none => rw [hf] at hx; simp at hx
    | some e =>
      rw [hf] at hx
      have := List.find?_some hf
      exact ⟨e, List.mem_of_find?_eq_some hf, by simpa using this, by simpa using hx⟩
  · rintro ⟨e, he, rfl, hx⟩
    rw [ow_mem H.rise he]; exact hx
def rowD (R : List Nat) : D := .str (rowS R)
@[simp] theorem frz_rowD {R} : frz (rowD R) = rowD R := rfl
@[simp] theorem imm_rowD {R} : isImm (rowD R) = true := rfl
theorem RowOk.sub (hR : RowOk L R) (hs : ∀ r ∈ R', r ∈ R) : RowOk L R' := fun r hr => hR r (hs r hr)
theorem RowOk.see (hR : RowOk L R) {x : Nat} : RowOk L (see L x R) := hR.sub fun r hr => (List.mem_filter.mp hr).1
/-- all hands see the same -/
def Same (h : Nat) (L : List (Nat × List Nat)) (A B : List Nat) : Prop := ∀ x, x < h → see L x A = see L x B
instance : Decidable (Same h L R R') := inferInstanceAs (Decidable (∀ x, x < h → _))
end
end M
namespace M
open PySem PySem.Spec PyProof.Rows L2 Hap
section
variable {h : Nat} {L : List (Nat × List Nat)} {R S : List Nat}
theorem Hang.symm {a b : Nat} (h : Hang L a b) : Hang L b a := by
  obtain ⟨x, h1, h2⟩ := h; exact ⟨x, h2, h1⟩
/-- the letter at p hangs on none ahead -/
structure Fore (L : List (Nat × List Nat)) (R : List Nat) (p : Nat) : Prop where
  lt : p < R.length
  free : ∀ q, q < p → ¬ Hang L (M.lt R q) (M.lt R p)
/-- the place of the least letter that hangs on none ahead -/
structure Lp (L : List (Nat × List Nat)) (R : List Nat) (p : Nat) : Prop where
  fore : Fore L R p
  le : ∀ q, Fore L R q → M.lt R p ≤ M.lt R q
inductive Least (L : List (Nat × List Nat)) : List Nat → List Nat → Prop
  | nil : Least L [] []
  | step {R S p} : Lp L R p → Least L (R.eraseIdx p) S → Least L R (M.lt R p :: S)
theorem Least.len {R S : List Nat} (h : Least L R S) : S.length = R.length := by
  induction h with
  | nil => rfl
  | step hp _ ih =>
    have := hp.fore.lt
    rw [List.length_cons, ih, List.length_eraseIdx_of_lt this]; omega
theorem lt_mem {p : Nat} (hp : p < R.length) : M.lt R p ∈ R := by
  have : M.lt R p = R[p] := by simp [M.lt, hp]
  rw [this]; exact List.getElem_mem hp
theorem erase_mem {p : Nat} {r : Nat} (h : r ∈ R.eraseIdx p) : r ∈ R := (List.eraseIdx_sublist R p).subset h
theorem RowOk.erase (hR : RowOk L R) {p : Nat} : RowOk L (R.eraseIdx p) := hR.sub fun _ h => erase_mem h
theorem Least.ok (h : Least L R S) (hR : RowOk L R) : RowOk L S := by
  induction h with
  | nil => exact hR
  | step hp _ ih =>
    intro r hr
    rcases List.mem_cons.mp hr with rfl | hr
    · exact hR _ (lt_mem hp.fore.lt)
    · exact ih hR.erase r hr
theorem lt_cons_succ {a : Nat} {R : List Nat} {p : Nat} : M.lt (a :: R) (p + 1) = M.lt R p := by simp [M.lt]
theorem lt_cons_zero {a : Nat} {R : List Nat} : M.lt (a :: R) 0 = a := by simp [M.lt]
theorem Fore.tail {a : Nat} {p : Nat} (h : Fore L (a :: R) (p + 1)) : Fore L R p ∧ ¬ Hang L a (M.lt R p) := by
  refine ⟨⟨by have := h.lt; rw [List.length_cons] at this; omega, fun q hq => ?_⟩, ?_⟩
  · have := h.free (q + 1) (by omega)
    rwa [lt_cons_succ, lt_cons_succ] at this
  · have := h.free 0 (by omega)
    rwa [lt_cons_succ, lt_cons_zero] at this
/-- what hangs on none ahead may be brought ahead: all hands see the same -/
theorem see_fore {x : Nat} : ∀ {R : List Nat} {p : Nat}, Fore L R p → see L x (M.lt R p :: R.eraseIdx p) = see L x R
  | [], p, h => absurd h.lt (by simp)
  | a :: R, 0, h => by rw [lt_cons_zero]; rfl
  | a :: R, p + 1, h => by
    obtain ⟨h1, h2⟩ := h.tail
    have ih := see_fore (x := x) h1
    rw [lt_cons_succ, List.eraseIdx_cons_succ]
    have ih' : see L x (M.lt R p :: R.eraseIdx p) = see L x R := ih
    unfold see at ih' ⊢
    simp only [List.filter_cons] at ih' ⊢
    rw [← ih']
    by_cases c1 : x ∈ ow L (M.lt R p)
    · have c2 : ¬ x ∈ ow L a := fun c2 => h2 ⟨x, c2, c1⟩
      simp [c1, c2]
    · simp [c1]
theorem Least.see (hh : Least L R S) (x : Nat) : see L x S = M.see L x R := by
  induction hh with
  | nil => rfl
  | step hp _ ih =>
    rw [← see_fore hp.fore]
    unfold M.see at ih ⊢
    simp only [List.filter_cons]
    rw [ih]
theorem Least.same (hh : Least L R S) : Same h L S R := fun x _ => hh.see x
/-- a letter that hangs on none ahead, by what the hands see -/
theorem fore_iff {a : Nat} : ∀ {R : List Nat}, (∃ p, Fore L R p ∧ M.lt R p = a) ↔ a ∈ R ∧ (∀ x ∈ ow L a, (see L x R).head? = some a)
  | [] => by
    constructor
    · rintro ⟨p, h, _⟩; exact absurd h.lt (by simp)
    · rintro ⟨h, _⟩; cases h
  | b :: R => by
    have ih := fore_iff (a := a) (R := R)
    constructor
    · rintro ⟨p, h, rfl⟩
      refine ⟨lt_mem h.lt, fun x hx => ?_⟩
      rw [← see_fore (x := x) h]
      unfold M.see
      rw [List.filter_cons, if_pos (decide_eq_true hx)]; rfl
    · rintro ⟨h1, h2⟩
      by_cases e : a = b
      · subst e
        exact ⟨0, ⟨by simp, fun q hq => by omega⟩, lt_cons_zero⟩
      · have hab : ¬ Hang L b a := by
          rintro ⟨x, hx1, hx2⟩
          have := h2 x hx2
          unfold M.see at this
          rw [List.filter_cons, if_pos (decide_eq_true hx1)] at this
          exact e (by simpa using this.symm)
        have hm : a ∈ R := (List.mem_cons.mp h1).resolve_left e
        obtain ⟨p, hp, hpa⟩ := ih.mpr ⟨hm, fun x hx => by
          have := h2 x hx
          have c2 : ¬ x ∈ ow L b := fun c2 => hab ⟨x, c2, hx⟩
          unfold M.see at this ⊢
          rw [List.filter_cons, if_neg (by simpa using c2)] at this
          exact this⟩
        refine ⟨p + 1, ⟨by have := hp.lt; simp; omega, fun q hq => ?_⟩, by rw [lt_cons_succ]; exact hpa⟩
        rw [lt_cons_succ]
        cases q with
        | zero => rw [lt_cons_zero, hpa]; exact hab
        | succ q => rw [lt_cons_succ]; exact hp.free q (by omega)
theorem mem_see {a x : Nat} : a ∈ see L x R ↔ a ∈ R ∧ x ∈ ow L a := by
  unfold M.see; rw [List.mem_filter, decide_eq_true_eq]
/-- rows of which all hands see the same have the same letters -/
theorem Same.mem (H : House h L) {A B : List Nat} (hA : RowOk L A) (hs : Same h L A B) {a : Nat} (ha : a ∈ A) : a ∈ B := by
  obtain ⟨e, he, rfl⟩ := hA a ha
  obtain ⟨x, hx⟩ := List.exists_mem_of_ne_nil _ (H.own e he).ne
  have hx' : x ∈ ow L e.1 := by rw [ow_mem H.rise he]; exact hx
  have : e.1 ∈ M.see L x A := mem_see.mpr ⟨ha, hx'⟩
  rw [hs x ((H.own e he).lt x hx)] at this
  exact (mem_see.mp this).1
theorem Same.symm {A B : List Nat} (hs : Same h L A B) : Same h L B A := fun x hx => (hs x hx).symm
theorem Same.trans {A B C : List Nat} (hs : Same h L A B) (ht : Same h L B C) : Same h L A C := fun x hx => (hs x hx).trans (ht x hx)
theorem Same.refl {A : List Nat} : Same h L A A := fun _ _ => rfl
theorem ow_lt (H : House h L) {a x : Nat} (hx : x ∈ ow L a) : x < h := by
  obtain ⟨e, he, _, hx'⟩ := (ow_of_mem H).mp hx
  exact (H.own e he).lt x hx'
theorem Same.fore (H : House h L) {A B : List Nat} (hA : RowOk L A) (hs : Same h L A B) {a : Nat} (ha : ∃ p, Fore L A p ∧ M.lt A p = a) : ∃ p, Fore L B p ∧ M.lt B p = a := by
  obtain ⟨h1, h2⟩ := fore_iff.mp ha
  exact fore_iff.mpr ⟨hs.mem H hA h1, fun x hx => by rw [← hs x (ow_lt H hx)]; exact h2 x hx⟩
/-- the least row hangs on what the hands see alone -/
theorem Least.uniq (H : House h L) {A S : List Nat} (hA : Least L A S) : ∀ {B T : List Nat}, RowOk L A → RowOk L B → Least L B T → Same h L A B → S = T := by
  induction hA with
  | nil =>
    intro B T _ hB hT hs
    cases hT with
    | nil => rfl
    | step hp _ =>
      have := hs.symm.mem H hB (lt_mem hp.fore.lt)
      cases this
  | @step A S p hp hS ih =>
    intro B T hA hB hT hs
    cases hT with
    | nil =>
      have := hs.mem H hA (lt_mem hp.fore.lt)
      cases this
    | @step _ T q hq hT =>
      have e : M.lt A p = M.lt B q := by
        obtain ⟨q', h1, h2⟩ := hs.fore H hA ⟨p, hp.fore, rfl⟩
        obtain ⟨p', h3, h4⟩ := hs.symm.fore H hB ⟨q, hq.fore, rfl⟩
        have l1 := hq.le q' h1
        have l2 := hp.le p' h3
        omega
      rw [e]
      congr 1
      refine ih hA.erase hB.erase hT fun x hx => ?_
      have h1 := see_fore (x := x) hp.fore
      have h2 := see_fore (x := x) hq.fore
      rw [hs x hx, ← h2, e] at h1
      unfold M.see at h1 ⊢
      simp only [List.filter_cons] at h1
      split at h1
      · exact (List.cons.inj h1).2
      · exact h1
end
end M
namespace M
open PySem PySem.Spec PyProof.Rows L2 Hap
def b__law_house_copy : Ev → RS :=
  (fRet (fTup (fCons (fI (vOp2 gIx (vVar 0) (vK (.int 0)))) (fCons (fLc (fIt itemsL (fI (vOp2 gIx (vVar 0) (vK (.int 1))))) (gT 2 (gsC (gN 1) (gsC (gN 2) gsN))) fYes (fTup (fCons (fVar 1) (fCons (fOpN gList (fCons (fVar 2) fNil)) fNil))) [1, 2]) fNil))))
def m__law_house_copy : Fn := semOf (List.replicate 1 false) 3 b__law_house_copy
end M
namespace M
open PySem PySem.Spec PyProof.Rows L2 Hap
section
variable {h : Nat} {L : List (Nat × List Nat)} {R : List Nat}
theorem sg_lt_iff {a b : Nat} : (sg a).cps.toList < (sg b).cps.toList ↔ a < b := by
  show [97 + a] < [97 + b] ↔ _
  constructor
  · intro h
    rcases List.cons_lt_cons_iff.mp h with h | ⟨h, h2⟩
    · omega
    · exact absurd h2 (by simp)
  · intro h
    exact List.cons_lt_cons_iff.mpr (.inl (by omega))
end
end M
namespace M
open PySem PySem.Spec PyProof.Rows L2 Hap
section
variable {h : Nat} {L : List (Nat × List Nat)} {R : List Nat}
theorem copy_spec (hl : L.length ≤ 6) : m__law_house_copy [houD false h L] = .rt (houD true h L) [none] := by
  have hs2 : 2 ≤ sizeLine := by decide
  have lc : fLc (fIt itemsL (fI (vOp2 gIx (vVar 0) (vK (.int 1))))) (gT 2 (gsC (gN 1) (gsC (gN 2) gsN))) fYes (fTup (fCons (fVar 1) (fCons (fOpN gList (fCons (fVar 2) fNil)) fNil))) [1, 2] [some (houD false h L), none, none] = .ok (.lst true (L.map (entD true))) [some (houD false h L), none, none] := by
    refine lc_all (g := entD false) (by simp) (by simp) (by unfold sizeLine; omega) fun e _ => ?_
    have i3 : gList [ownD false e.2] = some (ownD true e.2) := by
      show (if isImms (e.2.map natD) = true then _ else _) = _
      rw [if_pos imms_nats]; rfl
    exact ⟨[some (houD false h L), some (sgD e.1), some (ownD false e.2)], by simp [entD]; rfl, [some (houD false h L), some (sgD e.1), some (ownD false e.2)], by simp [i3, hs2]; rfl, by simp⟩
  have eh : D.tup [.int (h : Int), .lst true (L.map (entD true))] = houD true h L := rfl
  unfold m__law_house_copy; rw [semOf_ap]; unfold b__law_house_copy
  simp [lc, hs2, eh]
end
theorem turns2_spec (a b : Nat) (ns : List Int) : ∃ t : Nat, 1 ≤ max 1 t ∧ t ≤ max a b ∧ ∀ l : Ev, (vOpN gMax2 (vCons (vK (.int (a : Int))) (vCons (vOpN gMin2 (vCons (vOpN gLen (vCons (vVar 0) vNil)) (vCons (vK (.int (b : Int))) vNil))) vNil))) (some (.rol (ns.map D.int)) :: l) = some (.int (t : Int)) := by
  refine ⟨max a (min ns.length b), by omega, by omega, fun l => ?_⟩
  simp
  repeat' split
  all_goals omega
end M
namespace M
open PySem PySem.Spec PyProof.Rows L2 Hap
section
variable {h : Nat} {L : List (Nat × List Nat)} {R : List Nat}
theorem up_sg {a : Nat} (h : a < 26) : gUpper (sgD a) = some (.str ⟨#[65 + a]⟩) := by
  have e : Txt.upper (sg a) = ⟨#[65 + a]⟩ := by
    rw [PyProof.Rows.upper_ascii (x := sg a) (fun c hc => by have : c = 97 + a := by simpa [sg] using hc
                                                             omega)]
    have e1 : (sg a).cps = #[97 + a] := rfl
    have : PyProof.Rows.up1 (97 + a) = 65 + a := by
      unfold PyProof.Rows.up1
      rw [if_pos (by omega)]
      omega
    rw [e1]
    simp [this]
  show gUpper (.str (sg a)) = _
  rw [upper_s, e]
  rfl
end
end M
namespace Hap
open PySem PySem.Spec PyProof.Rows L2
/-- what is asked of a kind of keys -/
structure SetKind {P : Program} {w : World} {κ : Type} [DecidableEq κ] (knd : HeapKind P w κ) : Prop where
  cls : ∀ {A : Around} {E : Value → Shared → Prop} {s : Shared} {k : κ} {b : Addr} {Q : Bool → Shared → Prop}, knd.is s.heap k b → Q false s → wpAny (model P w) A (ofAClassStatement 8 (.ref b)) Q E s
  val : ∀ {A : Around} {E : Value → Shared → Prop} {s : Shared} {k : κ} {b : Addr} (Q : Bool → Shared → Prop), knd.is s.heap k b → (∀ c, Q c s) → wpAny (model P w) A (hashByValue 8 (.ref b)) Q E s
  same : ∀ {h h' : Heap} {k : κ} {a b : Addr} {o : Obj} {es : Array (Int × Value)} {ep : Nat} {t : SetTable}, knd.is h k b → h.get? a = some o → o.data = .set es ep t → Heap.SameBut a h h' → knd.is h' k b
  keep : ∀ {h h' : Heap} {k : κ} {b : Addr}, knd.is h k b → (∀ c o, h.get? c = some o → h'.get? c = some o) → knd.is h' k b
section
variable {P : Program} {w : World} {κ : Type} [DecidableEq κ] {knd : HeapKind P w κ} (ok : SetKind knd) {A : Around} {E : Value → Shared → Prop} {s : Shared}
include ok
def rowsN (knd : HeapKind P w κ) (L : List (Addr × κ)) : List (Int × Value) := L.map fun p => (knd.hash p.2, Value.ref p.1)
structure SetNR (knd : HeapKind P w κ) (h : Heap) (a : Addr) (L : List (Addr × κ)) (es : Array (Int × Value)) (ep : Nat) (t : SetTable) : Prop where
  ob : ∃ o, h.get? a = some o ∧ o.ExactSet ∧ o.data = .set es ep t
  rows : es.toList = rowsN knd L
  tab : TabOk t (L.map fun p => knd.hash p.2)
  nd : (L.map (·.2)).Nodup
  tup : ∀ p ∈ L, knd.is h p.2 p.1
  led : w.params.followText "set-order" = true ∨ t.led = true
  room : L.length * 5 < t.mask * 3
  few : L.length < 64
variable {a : Addr} {L : List (Addr × κ)} {es : Array (Int × Value)} {ep : Nat} {t : SetTable}
omit ok in
theorem SetNR.size (R : SetNR knd s.heap a L es ep t) : es.size = L.length := by
  have h := congrArg List.length R.rows
  unfold rowsN at h
  rw [Array.length_toList, List.length_map] at h
  exact h
variable {a : Addr} {L : List (Addr × κ)} {es : Array (Int × Value)} {ep : Nat} {t : SetTable}
/-- what the set has got from the first i items -/
structure GotN (ks : List (Addr × κ)) (i : Nat) (L : List (Addr × κ)) : Prop where
  sub : ∀ p ∈ L, p ∈ ks.take i
  all : ∀ p ∈ ks.take i, p.2 ∈ L.map (·.2)
  len : L.length ≤ i
omit ok in
theorem take_nextN {α : Type} {l : List α} {i : Nat} {x : α} (h : l[i]? = some x) : l.take (i + 1) = l.take i ++ [x] := by
  rw [List.take_succ, h] <;> rfl
omit ok in
theorem GotN.same {ks L : List (Addr × κ)} {i : Nat} {x : Addr × κ} (g : GotN ks i L) (h : ks[i]? = some x) (m1 : x.2 ∈ L.map (·.2)) : GotN ks (i + 1) L := by
  refine ⟨fun p p1 => ?_, fun p p1 => ?_, Nat.le_succ_of_le g.len⟩
  · rw [take_nextN h]
    exact List.mem_append_left _ (g.sub p p1)
  · rw [take_nextN h] at p1
    rcases List.mem_append.mp p1 with z | z
    · exact g.all p z
    · rw [List.mem_singleton.mp z]; exact m1
omit ok in
theorem SetNR.keep {h h' : Heap} {a : Addr} {L : List (Addr × κ)} {es : Array (Int × Value)} {ep : Nat} {t : SetTable} (R : SetNR knd h a L es ep t) (ha : ∀ o, h.get? a = some o → h'.get? a = some o) (ht : ∀ p ∈ L, knd.is h' p.2 p.1) : SetNR knd h' a L es ep t := by
  obtain ⟨o, oo, r⟩ := R.ob
  exact ⟨⟨o, ha o oo, r⟩, R.rows, R.tab, R.nd, ht, R.led, R.room, R.few⟩
end
end Hap
namespace Hap
open PySem PySem.Spec PyProof.Rows L2
end Hap
namespace Hap
open PySem PySem.Spec PyProof.Rows L2
open PySem.W (EachIs AllAlike Sortable dataLe dataLt)
structure SO {α : Type} (lt : α → α → Bool) : Prop where
  irr : ∀ a, lt a a = false
  tr : ∀ a b c, lt a b = true → lt b c = true → lt a c = true
  tri : ∀ a b, a ≠ b → lt a b = true ∨ lt b a = true
section
variable {α : Type} [DecidableEq α] {lt : α → α → Bool}
theorem SO.neg (O : SO lt) {a b : α} (h : lt b a = false) (n : a ≠ b) : lt a b = true := (O.tri a b n).resolve_right fun z => by rw [h] at z; cases z
end
end Hap
namespace Hap
open PySem PySem.Spec PyProof.Rows L2
open PySem.W (EachIs AllAlike Sortable dataLe dataLt)
end Hap
namespace Hap
open PySem PySem.Spec PyProof.Rows L2
open PySem.W (EachIs)
end Hap
namespace Hap
open PySem PySem.Spec PyProof.Rows L2
end Hap
namespace L2
open PySem PySem.Spec PyProof.Rows
end L2
namespace Hap
open PySem PySem.Spec PyProof.Rows L2
variable [TabC]
def fD1K (fk fv : Ev → R D) : Ev → R D := fun ρ => (fk ρ).bind fun k ρ1 => (fv ρ1).bind fun d ρ2 => match keyOf k with
  | some c => .ok (.dct true [c] [frz d]) ρ2
  | none => .stk
def fD1T (fk fv : Ev → R D) : Ev → R D := fun ρ => (fk ρ).bind fun k ρ1 => (fv ρ1).bind fun d ρ2 => match keysT k with
  | some c => .ok (.dcT true [c] [frz d]) ρ2
  | none => .stk
end Hap
namespace Hap
open PySem PySem.Spec PyProof.Rows L2
variable [TabC]
section
variable {K : PySem.W.Frag} {P : AS} {H : Hp}
omit [TabC] in
theorem rls_erase : ∀ {ds : List D} {vs : List V} {F : AS} (j : Nat), Rls true K P H ds vs F → Rls true K P H (ds.eraseIdx j) (vs.eraseIdx j) F
  | _, _, _, _, .nil => .nil
  | _, _, _, 0, .cons r rs s1 s2 dj => rls_mono rs (fun _ q => q) (fun _ _ e _ _ => e) s2
  | _, _, _, j + 1, .cons (F1 := G1) (F2 := G2) r rs s1 s2 dj => .cons (F1 := G1) (F2 := G2) r (rls_erase j rs) s1 s2 dj
end
def isL1 (o : Option (Option D)) (k : List D → R D) : R D := match o with
  | some (some (.lst true xs)) => k xs
  | _ => .stk
omit [TabC] in
theorem isL1_cases {o : Option (Option D)} {k : List D → R D} : (∃ xs, o = some (some (.lst true xs)) ∧ isL1 o k = k xs) ∨ isL1 o k = .stk := by
  unfold isL1
  split
  · exact .inl ⟨_, rfl, rfl⟩
  · exact .inr rfl
def popD (xs : List D) (i j : Nat) (ρ : Ev) : R D := match xs[j]? with
  | some d => if isImm d = true ∧ xs.length ≤ sizeLine then .ok d (ρ.set i (some (.lst true (xs.eraseIdx j)))) else .stk
  | none => .stk
def fPop0 (i : Nat) : Ev → R D := fun ρ => isL1 ρ[i]? fun xs => popD xs i (xs.length - 1) ρ
def int1 (ds : List D) (k : Int → R D) : R D := match ds with
  | [.int n] => k n
  | _ => .stk
def natR (o : Option Nat) (k : Nat → R D) : R D := match o with
  | some j => k j
  | none => .stk
def fPopA (i : Nat) (f : Ev → R (List D)) : Ev → R D := fun ρ => isL1 ρ[i]? fun _ => (f ρ).bind fun ds ρ1 => int1 ds fun n => isL1 ρ1[i]? fun xs => natR (ixN xs.length n) fun j => popD xs i j ρ1
section
variable {X : Cx} {RX : RXR} {W : WX} {P : AS} {H : Hp} {ρ : Ev} {σ : L2.St} {FE : FP}
/-- one is taken out of a slot's list -/
theorem pop_slot {xs : List D} {i j : Nat} {d : D} {ρ' : Ev} (S : Stt X.K P H ρ σ FE) (e0 : ρ[i]? = some (some (.lst true xs))) (g : popD xs i j ρ = .ok d ρ') :
    xs.length ≤ sizeLine ∧ ∃ p vs y, σ[i]? = some (some (.ref p)) ∧ H p = some (.lst vs) ∧ xs.length = vs.length ∧ vs[j]? = some y ∧ ∃ FE', Stt X.K P (upd H p (.lst (vs.eraseIdx j))) ρ' σ FE' ∧ Tmp X.K P (upd H p (.lst (vs.eraseIdx j))) FE' d y E_ ∧ Tr P H (U FE) P (upd H p (.lst (vs.eraseIdx j))) (fun b => U FE' b ∨ E_ b) := by
  unfold popD at g
  split at g
  · rename_i d0 ed
    split at g
    · rename_i imz
      obtain ⟨im, imz⟩ := imz
      cases g
      refine ⟨imz, ?_⟩
      obtain ⟨p, vs, F', ev, h1, h2, h3, h4⟩ := slot_lst S e0
      obtain ⟨y, ey, ry⟩ := rls_get h4 ed
      have nP := (S.fin i p h2).2
      have nF' : ¬ F' p := fun z => (h3 p z).2 rfl
      obtain ⟨S2, t2⟩ := slot_write (F1 := E_) (o := .lst (vs.eraseIdx j)) (d' := .lst true (xs.eraseIdx j)) S h1 .lst ev h2 (fun b z => z.elim)
        (.lstO (F' := F') upd_same (fun _ => .inl h2) (fun b z => ⟨.inl (h3 b z).1, (h3 b z).2⟩) (rls_erase j (rls_upd h4 nP nF')))
      refine ⟨p, vs, y, ev, h1, rls_len h4, ey, _, S2, ⟨rl_imm (rl_upd (F' := E_) (rl_imm ry im) nP fun z => z) im, fun _ z => z.elim⟩, ?_⟩
      exact ⟨fun b o e n => t2.frame b o e fun z => z.elim n fun w => w.elim, t2.mono, fun b z => (t2.back b z).imp id fun w => w.imp (fun u => u.elim id fun w => w.elim) id, fun b z => (t2.sub b (z.elim id fun w => w.elim)).imp (fun u => u.elim id fun w => w.elim) id, t2.alive⟩
    · cases g
  · cases g
omit [TabC] in
theorem popD_cases {xs : List D} {i j : Nat} {ρ : Ev} : (∃ d ρ', popD xs i j ρ = .ok d ρ') ∨ popD xs i j ρ = .stk := by
  unfold popD
  split
  · split
    · exact .inl ⟨_, _, rfl⟩
    · exact .inr rfl
  · exact .inr rfl
theorem de_pop0 {e : Expr} {i : Nat} (h : PE X e (tBM0 X.K "list" rPop (tVar i))) : DE X RX W e (fPop0 i) := by
  refine pe_imp h fun σ H Q q => ?_
  obtain ⟨P, ρ, FE, S, q⟩ := q
  unfold fPop0 at q
  rcases isL1_cases (o := ρ[i]?) (k := fun xs => popD xs i (xs.length - 1) ρ) with ⟨xs, e0, eq⟩ | eq
  · rw [eq] at q
    rcases popD_cases (xs := xs) (i := i) (j := xs.length - 1) (ρ := ρ) with ⟨d, ρ1, g⟩ | g
    · rw [g] at q
      obtain ⟨_, p, vs, y, ev, h1, hl, hy, FE', S2, T2, t2⟩ := pop_slot S e0 g
      refine ⟨.ref p, ev, .inl ⟨rfl, vs, .inl (.inl h1)⟩, p, vs, y, rfl, rfl, h1, by rw [← hl]; exact hy, ?_⟩
      have e1 : vs.eraseIdx (xs.length - 1) = vs.dropLast := by rw [hl]; exact PyProof.Rows.Copied.eraseIdx_last vs
      rw [e1] at S2 T2 t2
      exact q y _ _ _ _ S2 T2 t2
    · rw [g] at q; exact q.elim
  · rw [eq] at q; exact q.elim
end
def ranD (n : Nat) : List D := (List.range n).map fun i => .int ((i : Nat) : Int)
def rgC (ds : List D) (k : Nat → R D) : R D := int1 ds fun n => if 0 ≤ n ∧ n ≤ 16777216 then k n.toNat else .stk
def fRgL (f : Ev → R D) : Ev → R D := fun ρ => (f ρ).bind fun d ρ1 => rgC [d] fun n => .ok (.lst true (ranD n)) ρ1
def fRgT (f : Ev → R D) : Ev → R D := fun ρ => (f ρ).bind fun d ρ1 => rgC [d] fun n => .ok (.tup (ranD n)) ρ1
/-- a list of lists, changed at two places -/
def setN (xs : List D) (n m : Int) (d : D) : Option D := (ixN xs.length n).bind fun k => match xs[k]? with
  | some (.lst true ys) => (ixN ys.length m).map fun j => .lst true (xs.set k (.lst true (ys.set j d)))
  | _ => none
def intS3 (o : Option D) (k : Int → RS) : RS := match o with
  | some (.int n) => k n
  | _ => .stk
def lstO1 (o : Option (Option D)) (k : List D → RS) : RS := match o with
  | some (some (.lst true xs)) => k xs
  | _ => .stk
def optS (o : Option D) (k : D → RS) : RS := match o with
  | some d => k d
  | none => .stk
def fSetN (i : Nat) (f : Ev → R D) (g1 g2 : Ev → Option D) : Ev → RS := fun ρ => RS.of (f ρ) fun d ρ1 => if isImm d = true then lstO1 ρ1[i]? fun xs => intS3 (g1 ρ1) fun n => intS3 (g2 ρ1) fun m => optS (setN xs n m d) fun d' => .nx (ρ1.set i (some d')) else .stk
end Hap
namespace Hap
open PySem PySem.Spec PyProof.Rows L2 PySem.W
end Hap
namespace Hap
open PySem PySem.Spec PyProof.Rows L2
section
variable {ρ : Ev} {i : Nat} {f f' : Ev → R D} {g1 g2 : Ev → Option D} {fa : Ev → R (List D)}
@[simp] theorem ap_setN : fSetN i f g1 g2 ρ = RS.of (f ρ) fun d ρ1 => if isImm d = true then lstO1 ρ1[i]? fun xs => intS3 (g1 ρ1) fun n => intS3 (g2 ρ1) fun m => optS (setN xs n m d) fun d' => .nx (ρ1.set i (some d')) else .stk := (rfl)
@[simp] theorem lstO1_s {xs : List D} {k : List D → RS} : lstO1 (some (some (.lst true xs))) k = k xs := (rfl)
@[simp] theorem intS3_s {n : Int} {k : Int → RS} : intS3 (some (.int n)) k = k n := (rfl)
@[simp] theorem optS_s {d : D} {k : D → RS} : optS (some d) k = k d := (rfl)
@[simp] theorem ap_rgL : fRgL f ρ = (f ρ).bind fun d ρ1 => rgC [d] fun n => .ok (.lst true (ranD n)) ρ1 := (rfl)
@[simp] theorem ap_rgT : fRgT f ρ = (f ρ).bind fun d ρ1 => rgC [d] fun n => .ok (.tup (ranD n)) ρ1 := (rfl)
@[simp] theorem ap_d1K : fD1K f f' ρ = (f ρ).bind fun k ρ1 => (f' ρ1).bind fun d ρ2 => match keyOf k with
  | some c => .ok (.dct true [c] [frz d]) ρ2
  | none => .stk := (rfl)
@[simp] theorem ap_d1T : fD1T f f' ρ = (f ρ).bind fun k ρ1 => (f' ρ1).bind fun d ρ2 => match keysT k with
  | some c => .ok (.dcT true [c] [frz d]) ρ2
  | none => .stk := (rfl)
@[simp] theorem ap_pop0 : fPop0 i ρ = isL1 ρ[i]? fun xs => popD xs i (xs.length - 1) ρ := (rfl)
@[simp] theorem ap_popA : fPopA i fa ρ = isL1 ρ[i]? fun _ => (fa ρ).bind fun ds ρ1 => int1 ds fun n => isL1 ρ1[i]? fun xs => natR (ixN xs.length n) fun j => popD xs i j ρ1 := (rfl)
@[simp] theorem isL1_s {xs : List D} {k : List D → R D} : isL1 (some (some (.lst true xs))) k = k xs := (rfl)
@[simp] theorem int1_s {n : Int} {k : Int → R D} : int1 [.int n] k = k n := (rfl)
end
end Hap
namespace Hap
open PySem PySem.Spec PyProof.Rows L2
variable [TabC]
def two1 (ds : List D) (k : D → D → RS) : RS := match ds with
  | [d, e] => k d e
  | _ => .stk
def RSofL (r : R (List D)) (k : List D → Ev → RS) : RS := match r with
  | .ok ds ρ => k ds ρ
  | .exc x ρ => .exc x ρ
  | .stk => .stk
def fPar (i j : Nat) (f : Ev → R (List D)) : Ev → RS := fun ρ => RSofL (f ρ) fun ds ρ1 => two1 ds fun d e => .nx ((ρ1.set i (some d)).set j (some e))
section
variable {ρ : Ev} {i j : Nat} {f : Ev → R (List D)}
omit [TabC]
@[simp] theorem ap_par : fPar i j f ρ = RSofL (f ρ) fun ds ρ1 => two1 ds fun d e => .nx ((ρ1.set i (some d)).set j (some e)) := (rfl)
@[simp] theorem ofL_ok {ds : List D} {k : List D → Ev → RS} : RSofL (.ok ds ρ) k = k ds ρ := (rfl)
@[simp] theorem two1_s {d e : D} {k : D → D → RS} : two1 [d, e] k = k d e := (rfl)
end
end Hap
namespace Hap
open PySem PySem.Spec PyProof.Rows L2
def CTup (K : PySem.W.Frag) (a : Addr) (ws : List Str) : Prop := ∃ (o : Obj) (its : Array Value) (n : Nat), K.lookup a = some o ∧ o.cls = .type "tuple" ∧ o.data = .seq its n ∧ its.size ≤ sizeLine ∧ Vals (ws.map V.str) its.toList
theorem CTup.sq {K : PySem.W.Frag} {a : Addr} {ws : List Str} (c : CTup K a ws) (H : Hp) : SqT K H a (ws.map V.str) := .inr c
theorem ctup_mk {K : PySem.W.Frag} {a : Addr} {cls : Value} {dd : Option Addr} {its : Array Value} {n : Nat} {sl : Array (Option Value)} {ws : List Str} (l : K.lookup a = some ⟨cls, dd, .seq its n, sl⟩) (hc : cls = .type "tuple") (hz : its.size ≤ sizeLine) (hv : Vals (ws.map V.str) its.toList) : CTup K a ws := ⟨_, its, n, l, hc, rfl, hz, hv⟩
def gInC (ws : List Str) (d : D) : Option D := match d with
  | .str x => some (.bl (decide (x ∈ ws)))
  | _ => none
variable [TabC]
omit [TabC] in
theorem flat_strs (ws : List Str) : (ws.map V.str).all flatV = true := by
  rw [List.all_eq_true]
  intro x hx
  obtain ⟨y, _, rfl⟩ := List.mem_map.mp hx
  rfl
omit [TabC] in
theorem inV_strs {x : Str} : ∀ ws : List Str, inV (.str x) (ws.map V.str) = decide (x ∈ ws)
  | [] => rfl
  | w :: ws => by
    have ih := inV_strs (x := x) ws
    unfold inV at ih ⊢
    rw [List.map_cons, List.any_cons, ih]
    have e : eqV (.str w) (.str x) = decide (x = w) := by
      show (w == x) = _
      rw [Bool.eq_iff_iff, beq_iff_eq, decide_eq_true_eq]; exact eq_comm
    rw [e]
    by_cases c : x = w
    · rw [decide_eq_true c, decide_eq_true (List.mem_cons.mpr (.inl c))]; rfl
    · rw [decide_eq_false c, Bool.false_or]
      exact decide_eq_decide.mpr ⟨fun z => List.mem_cons_of_mem _ z, fun z => (List.mem_cons.mp z).resolve_left c⟩
theorem vInC {K : PySem.W.Frag} {a : Addr} {ws : List Str} (c : CTup K a ws) : VOp1 K (fun x H Q => rIn K false x (.ref a) H Q) (gInC ws) := by
  intro P H d v x Q pin r g h
  unfold gInC at g
  split at g
  · rename_i z
    cases g
    cases r
    refine ⟨a, ws.map V.str, rfl, .inr (c.sq H), rfl, flat_strs ws, ?_⟩
    rw [if_neg (by decide), inV_strs]
    exact h _ P H E_ New.refl .bl
  · cases g
section
variable {X : Cx} {RX : RXR} {W : WX} {tg e : Expr} {x : Str} {p pos : Pos} {a : Addr} {ws : List Str}
def fItC (ws : List Str) : Ev → R (List D) := fun ρ => .ok (ws.map .str) ρ
theorem walks_C {K : PySem.W.Frag} {P0 : AS} {H0 : Hp} (c : CTup K a ws) : Walks K (Itt K a) P0 H0 (ws.map .str) where
  go := fun P H i d _ _ _ hd => by
    rw [List.getElem?_map] at hd
    cases e : ws[i]? with
    | none => rw [e] at hd; cases hd
    | some w =>
      rw [e] at hd; cases hd
      have e1 : (ws.map V.str)[i]? = some (.str w) := by rw [List.getElem?_map, e]; rfl
      refine ⟨⟨_, _, c.sq H, e1⟩, fun x H3 y => ?_⟩
      obtain ⟨e2, y⟩ := y
      subst e2
      have := y _ (c.sq _)
      rw [e1] at this; cases this
      exact ⟨P, New.refl, .str⟩
  stop := fun H _ => ⟨_, c.sq H, by simp⟩
theorem di_C (c : CTup X.K a ws) (hg : Gl X x) (hm : X.mg x = some (.ref a)) (hd : (x == ("__debug__" : Str)) = false := by decide) : DI X RX W tg (.Name x p) (fItC ws) := by
  refine pi_imp (pi_tup (pe_glob (v := .ref a) hg hm rfl hd)) fun σ H Q q => ?_
  obtain ⟨P, ρ, FE, S, q⟩ := q
  exact ⟨a, rfl, ⟨_, c.sq H⟩, q _ P H FE S Tr.refl (walks_C c)⟩
theorem dt_inCe {f : Ev → Option D} (c : ∃ a, X.mg x = some (.ref a) ∧ CTup X.K a ws) (hg : Gl X x) (ha : DV X e f) (hd : (x == ("__debug__" : Str)) = false := by decide) : DT X RX W (.Compare e [.In] [.Name x p] pos) (fTv (vOp1 (gInC ws) f)) := by
  obtain ⟨a, hm, c⟩ := c
  exact pt_imp (pt_cmpR op_in_seq ha (pe_glob (v := .ref a) hg hm rfl hd) rfl) fun σ H Q q => v_op1 (vInC c) (t_valV q)
theorem di_Ce (c : ∃ a, X.mg x = some (.ref a) ∧ CTup X.K a ws) (hg : Gl X x) (hd : (x == ("__debug__" : Str)) = false := by decide) : DI X RX W tg (.Name x p) (fItC ws) := by
  obtain ⟨a, hm, c⟩ := c
  exact di_C c hg hm hd
end
section
variable {ρ : Ev} {ws : List Str} {x : Str}
omit [TabC]
@[simp] theorem ap_itC : fItC ws ρ = .ok (ws.map .str) ρ := (rfl)
@[simp] theorem inC_s : gInC ws (.str x) = some (.bl (decide (x ∈ ws))) := (rfl)
end
end Hap
namespace Hap
open PySem PySem.Spec PyProof.Rows L2 PySem.W
end Hap
namespace Hap
open PySem PySem.Spec PyProof.Rows L2
variable [TabC]
def noX (r : RS) : RS := match r with
  | .exc _ _ => .stk
  | r => r
def fForK (i : Nat) (t : D → Ev → Option Ev) (g : Ev → RS) : Ev → RS := fun ρ => match ρ[i]? with
  | some (some (.dct o ks xs)) => noX (loopS (stepS t g) (ks.map keyD) (ρ.set i (some (frz (.dct o ks xs)))))
  | _ => .stk
section
variable {ρ : Ev} {i : Nat} {t : D → Ev → Option Ev} {g : Ev → RS}
def forKR (o : Option (Option D)) (i : Nat) (t : D → Ev → Option Ev) (g : Ev → RS) (ρ : Ev) : RS := match o with
  | some (some (.dct o ks xs)) => noX (loopS (stepS t g) (ks.map keyD) (ρ.set i (some (frz (.dct o ks xs)))))
  | _ => .stk
omit [TabC] in
@[simp] theorem ap_forK : fForK i t g ρ = forKR ρ[i]? i t g ρ := by unfold fForK forKR; rfl
omit [TabC] in
@[simp] theorem forKR_s {o : Bool} {ks : List Key} {xs : List D} : forKR (some (some (.dct o ks xs))) i t g ρ = noX (loopS (stepS t g) (ks.map keyD) (ρ.set i (some (.dct false ks (frzs xs))))) := (rfl)
omit [TabC] in
@[simp] theorem noX_nx {ρ : Ev} : noX (.nx ρ) = .nx ρ := (rfl)
omit [TabC] in
@[simp] theorem noX_rt {ρ : Ev} {d : D} : noX (.rt d ρ) = .rt d ρ := (rfl)
end
end Hap
namespace Hap
open PySem PySem.Spec PyProof.Rows L2
variable [TabC]
def gTL (n : Nat) (u : List D → Ev → Option Ev) : D → Ev → Option Ev := fun d ρ => match d with
  | .lst false ds => if ds.length = n then u ds ρ else none
  | _ => none
section
variable {ρ : Ev}
omit [TabC] in
@[simp] theorem ap_gTL {n u} {ds : List D} : gTL n u (.lst false ds) ρ = if ds.length = n then u ds ρ else none := (rfl)
end
end Hap
namespace Hap
open PySem PySem.Spec PyProof.Rows L2
end Hap
namespace Hap
open PySem PySem.Spec PyProof.Rows L2
variable [TabC]
def modP (g : List D → Option (List D)) : List Int → D → Option D
  | [], d => (match d with
    | .lst true xs => (g xs).map (.lst true)
    | _ => none)
  | j :: js, d => (match d with
    | .tup ds => (ixN ds.length j).bind fun k => (ds[k]?).bind fun d0 => (modP g js d0).map fun d' => .tup (ds.set k d')
    | .lst true ds => (ixN ds.length j).bind fun k => (ds[k]?).bind fun d0 => (modP g js d0).map fun d' => .lst true (ds.set k d')
    | _ => none)
def gRev (xs : List D) : Option (List D) := some xs.reverse
def setR (o : Option D) (i : Nat) (ρ : Ev) : RS := match o with
  | some d2 => .nx (ρ.set i (some d2))
  | none => .stk
def setM (g : List D → Option (List D)) (js : List Int) (o : Option (Option D)) (i : Nat) (ρ : Ev) : RS := match o with
  | some (some d) => setR (modP g js d) i ρ
  | _ => .stk
def gEmp (xs : List D) : Option (List D) := if xs.length < sizeLine then some (xs ++ [.lst false []]) else none
/-- x[..].reverse() -/
def fRevP (i : Nat) (js : List Int) : Ev → RS := fun ρ => setM gRev js ρ[i]? i ρ
/-- x[..].append([]) -/
def fEmpP (i : Nat) (js : List Int) : Ev → RS := fun ρ => setM gEmp js ρ[i]? i ρ
section
variable {ρ : Ev} {i : Nat} {js : List Int} {d : D} {g : List D → Option (List D)}
omit [TabC]
@[simp] theorem ap_revP : fRevP i js ρ = setM gRev js ρ[i]? i ρ := (rfl)
@[simp] theorem ap_empP : fEmpP i js ρ = setM gEmp js ρ[i]? i ρ := (rfl)
@[simp] theorem setM_s : setM g js (some (some d)) i ρ = setR (modP g js d) i ρ := (rfl)
@[simp] theorem setR_s : setR (some d) i ρ = .nx (ρ.set i (some d)) := (rfl)
end
end Hap
namespace Hap
open PySem PySem.Spec PyProof.Rows L2
variable [TabC]
def fCallIOM (j : Nat) (sem : Fn) (f1 : Ev → R D) : Ev → R D := fun ρ => match ρ[j]? with
  | some (some _) => (f1 ρ).bind fun d1 ρ1 => match ρ1[j]? with
    | some (some d0) => callR (sem [d0, d1]) ρ1 fun outs => ρ1.set j (hd0 outs)
    | _ => .stk
  | _ => .stk
section
variable {ρ : Ev} {i : Nat} {f : Ev → R D} {sem : Fn}
def callM (o : Option (Option D)) (j : Nat) (sem : Fn) (d1 : D) (ρ1 : Ev) : R D := match o with
  | some (some d0) => callR (sem [d0, d1]) ρ1 fun outs => ρ1.set j (hd0 outs)
  | _ => .stk
omit [TabC] in
@[simp] theorem ap_callIOM : fCallIOM i sem f ρ = isS ρ[i]? fun _ => (f ρ).bind fun d1 ρ1 => callM ρ1[i]? i sem d1 ρ1 := by unfold fCallIOM isS callM; rfl
omit [TabC] in
@[simp] theorem callM_s {d0 d1 : D} : callM (some (some d0)) i sem d1 ρ = callR (sem [d0, d1]) ρ fun outs => ρ.set i (hd0 outs) := (rfl)
end
end Hap
namespace Hap
open PySem PySem.Spec PyProof.Rows L2
variable [TabC]
def rtInt (r : RF) (k : Int → Ev → RS) : RS := match r with
  | .rt (.int n) outs => k n outs
  | _ => .stk
def slD (o : Option (Option D)) (k : D → RS) : RS := match o with
  | some (some d) => k d
  | _ => .stk
def fSetNC (i : Nat) (f : Ev → R D) (g1 : Ev → Option D) (j : Nat) (sem : Fn) (g3 : Ev → Option D) : Ev → RS := fun ρ => if i = j then .stk else
  RS.of (f ρ) fun d ρ1 => if isImm d = true then lstO1 ρ1[i]? fun xs => intS3 (g1 ρ1) fun n => slD ρ1[j]? fun d0 => intS3 (g3 ρ1) fun m => rtInt (sem [d0, .int m]) fun m2 outs => optS (setN xs n m2 d) fun d' => .nx ((ρ1.set j (hd0 outs)).set i (some d')) else .stk
end Hap
namespace Hap
open PySem PySem.Spec PyProof.Rows L2
variable [TabC]
def atN (xs : List D) (n : Int) (k : Nat → List D → RS) : RS := match ixN xs.length n with
  | some j => (match xs[j]? with
    | some (.lst true ys) => k j ys
    | _ => .stk)
  | none => .stk
def oneI (ds : List D) (k : D → RS) : RS := match ds with
  | [d] => if isImm d = true then k d else .stk
  | _ => .stk
def fAppN (i : Nat) (g1 : Ev → Option D) (f : Ev → R (List D)) : Ev → RS := fun ρ => lstO1 ρ[i]? fun xs => intS3 (g1 ρ) fun n => atN xs n fun j ys =>
  RS.of (f (ρ.set i none)) fun ds ρ1 => oneI ds fun d => if ys.length < sizeLine then .nx (ρ1.set i (some (.lst true (xs.set j (.lst true (ys ++ [d])))))) else .stk
section
variable {ρ : Ev} {i : Nat} {g1 : Ev → Option D} {f : Ev → R (List D)}
omit [TabC]
@[simp] theorem ap_appN : fAppN i g1 f ρ = lstO1 ρ[i]? fun xs => intS3 (g1 ρ) fun n => atN xs n fun j ys => RS.of (f (ρ.set i none)) fun ds ρ1 => oneI ds fun d => if ys.length < sizeLine then .nx (ρ1.set i (some (.lst true (xs.set j (.lst true (ys ++ [d])))))) else .stk := (rfl)
@[simp] theorem oneI_s {d : D} {k : D → RS} : oneI [d] k = if isImm d = true then k d else .stk := (rfl)
@[simp] theorem ap_setNC {j : Nat} {fv : Ev → R D} {g3 : Ev → Option D} {sem : Fn} : fSetNC i fv g1 j sem g3 ρ = if i = j then .stk else RS.of (fv ρ) fun d ρ1 => if isImm d = true then lstO1 ρ1[i]? fun xs => intS3 (g1 ρ1) fun n => slD ρ1[j]? fun d0 => intS3 (g3 ρ1) fun m => rtInt (sem [d0, .int m]) fun m2 outs => optS (setN xs n m2 d) fun d' => .nx ((ρ1.set j (hd0 outs)).set i (some d')) else .stk := (rfl)
end
end Hap
namespace Hap
open PySem PySem.Spec PyProof.Rows L2
variable [TabC]
def gAddT (d e : D) : Option D := match d, e with
  | .tup xs, .tup ys => if (isImms xs = true ∧ isImms ys = true) ∧ xs.length + ys.length ≤ sizeLine then some (.tup (xs ++ ys)) else none
  | _, _ => none
theorem vAddT {K : PySem.W.Frag} : VOp2 K (rCatA K) gAddT := by
  intro P H d e v w x Q pin r1 r2 g h
  unfold gAddT at g
  split at g
  · rename_i xs ys
    split at g
    · rename_i c
      cases g
      obtain ⟨p, vs, rfl, e1, _, rs1⟩ := tup_read r1
      obtain ⟨q, ws, rfl, e2, _, rs2⟩ := tup_read r2
      have l1 := rls_len rs1
      have l2 := rls_len rs2
      refine ⟨p, q, vs, ws, rfl, rfl, .inl (.inl e1), .inl (.inl e2), by omega, fun z => ?_, fun z z2 => ?_, fun z z2 a ha => ?_⟩
      · have : xs = [] := List.eq_nil_of_length_eq_zero (by rw [l1, z]; rfl)
        subst this
        rw [List.nil_append] at h
        exact h _ P H E_ New.refl (rl_imm r2 (by simpa only [isImm] using c.1.2 : isImm (.tup ys) = true))
      · have : ys = [] := List.eq_nil_of_length_eq_zero (by rw [l2, z2]; rfl)
        subst this
        rw [List.append_nil] at h
        exact h _ P H E_ New.refl (rl_imm r1 (by simpa only [isImm] using c.1.1))
      · obtain ⟨n, r⟩ := new_tup ha (isImms_app c.1.1 c.1.2) (rls_app rs1 rs2)
        exact h _ _ _ _ n r
    · cases g
  · cases g
omit [TabC] in
theorem add_tt {xs ys : List D} : gAddT (.tup xs) (.tup ys) = if (isImms xs = true ∧ isImms ys = true) ∧ xs.length + ys.length ≤ sizeLine then some (.tup (xs ++ ys)) else none := rfl
end Hap
namespace Hap
open PySem PySem.Spec PyProof.Rows L2
def CInts (K : PySem.W.Frag) (a : Addr) (vs : List Int) : Prop := ∃ (o : Obj) (its : Array Value) (n : Nat), K.lookup a = some o ∧ o.cls = .type "tuple" ∧ o.data = .seq its n ∧ its.size ≤ sizeLine ∧ Vals (vs.map V.int) its.toList
theorem CInts.sq {K : PySem.W.Frag} {a : Addr} {vs : List Int} (c : CInts K a vs) (H : Hp) : SqT K H a (vs.map V.int) := .inr c
theorem cints_mk {K : PySem.W.Frag} {a : Addr} {cls : Value} {dd : Option Addr} {its : Array Value} {n : Nat} {sl : Array (Option Value)} {vs : List Int} (l : K.lookup a = some ⟨cls, dd, .seq its n, sl⟩) (hc : cls = .type "tuple") (hz : its.size ≤ sizeLine) (hv : Vals (vs.map V.int) its.toList) : CInts K a vs := ⟨_, its, n, l, hc, rfl, hz, hv⟩
def Ents (K : PySem.W.Frag) (P : Params) : List DictEntry → List (Str × List Int) → Prop
  | [], [] => True
  | e :: es, p :: ps => ((∃ t, e.key = .str p.1 t) ∧ e.hash = PyData.keyHash P p.1 ∧ ∃ a, e.val = .ref a ∧ CInts K a p.2) ∧ Ents K P es ps
  | _, _ => False
def CDct (K : PySem.W.Frag) (w : World) (a : Addr) (ps : List (Str × List Int)) : Prop :=
  ∃ (es : Array DictEntry) (n : Nat), K.lookup a = some ⟨.type "dict", none, .dict es n, #[]⟩ ∧ (a == sysModules) = false ∧ Ents K w.params es.toList ps
theorem Ents.lit {K : PySem.W.Frag} {P : Params} : ∀ {es : List DictEntry} {ps : List (Str × List Int)}, Ents K P es ps → PySem.W.KeysLit P es
  | [], [], _ => trivial
  | e :: es, p :: ps, h => ⟨let ⟨t, et⟩ := h.1.1; ⟨p.1, t, et, h.1.2.1⟩, Ents.lit h.2⟩
theorem CDct.kd {K : PySem.W.Frag} {w : World} {a : Addr} {ps : List (Str × List Int)} (c : CDct K w a ps) : ∃ es n, KDict K w a es n := by
  obtain ⟨es, n, l, z, e⟩ := c
  exact ⟨es, n, l, e.lit, z⟩
theorem Ents.find {K : PySem.W.Frag} {P : Params} {x : Str} : ∀ {es : List DictEntry} {ps : List (Str × List Int)}, Ents K P es ps →
    match ps.lookup x with
    | none => es.find? (·.key.isStr x) = none ∧ es.any (·.refKey) = false
    | some vs => ∃ e a, es.find? (·.key.isStr x) = some e ∧ e.val = .ref a ∧ CInts K a vs
  | [], [], _ => ⟨rfl, rfl⟩
  | e :: es, p :: ps, h => by
    have ih := Ents.find (x := x) h.2
    obtain ⟨⟨⟨t, et⟩, _, a, ea, ci⟩, _⟩ := h
    have ek : e.key.isStr x = decide (x = p.1) := by
      rw [et]
      show (p.1 == x) = _
      rw [Bool.eq_iff_iff, beq_iff_eq, decide_eq_true_eq]; exact eq_comm
    have er : e.refKey = false := by unfold DictEntry.refKey; rw [et]
    rw [List.lookup_cons]
    by_cases c : x = p.1
    · have : (x == p.1) = true := by rw [beq_iff_eq]; exact c
      rw [this]
      refine ⟨e, a, ?_, ea, ci⟩
      rw [List.find?_cons, ek, decide_eq_true c]
    · have : (x == p.1) = false := by rw [beq_eq_false_iff_ne]; exact c
      rw [this]
      rw [List.find?_cons, ek, decide_eq_false c, List.any_cons, er]
      exact ih
theorem CDct.ns {K : PySem.W.Frag} {w : World} {a : Addr} {ps : List (Str × List Int)} (c : CDct K w a ps) (x : Str) :
    match ps.lookup x with
    | none => PySem.W.nsIn K a x = some none
    | some vs => ∃ b, PySem.W.nsIn K a x = some (some (.ref b)) ∧ CInts K b vs := by
  obtain ⟨es, n, l, _, e⟩ := c
  have f := e.find (x := x)
  unfold PySem.W.nsIn
  rw [l]
  dsimp only
  cases q : ps.lookup x with
  | none =>
    rw [q] at f
    rw [f.1, f.2]; rfl
  | some vs =>
    rw [q] at f
    obtain ⟨en, b, h1, h2, h3⟩ := f
    exact ⟨b, by rw [h1]; dsimp only; rw [h2], h3⟩
def gPart (ps : List (Str × List Int)) (j : Int) (d : D) : Option D := match d with
  | .str x => (ps.lookup x).bind fun vs => (atI vs j).map D.int
  | _ => none
def gPsum (ps : List (Str × List Int)) (d : D) : Option D := match d with
  | .str x => (ps.lookup x).map fun vs => .int vs.sum
  | _ => none
def gNinD (ps : List (Str × List Int)) (d : D) : Option D := match d with
  | .str x => some (.bl (!(ps.lookup x).isSome))
  | _ => none
variable [TabC]
section
variable {K : PySem.W.Frag} {w : World} {a : Addr} {ps : List (Str × List Int)}
theorem vPart (c : CDct K w a ps) {j : Int} : VOp1 K (fun y H Q => rIxD K w (.ref a) y H fun x' H3 => rIxT K x' (.int j) H3 Q) (gPart ps j) := by
  intro P H d v x Q pin r g h
  unfold gPart at g
  split at g
  · rename_i z
    cases r
    have n := c.ns z
    obtain ⟨es, k, kd⟩ := c.kd
    cases q : ps.lookup z with
    | none => rw [q] at g; cases g
    | some vs =>
      rw [q] at g n
      obtain ⟨b, nb, ci⟩ := n
      rw [Option.bind_some] at g
      cases e : atI vs j with
      | none => rw [e] at g; cases g
      | some i =>
        rw [e] at g; cases g
        refine ⟨a, z, .ref b, rfl, rfl, ⟨es, k, .ref b, kd.at_, kd.lit, nb, rfl⟩, b, vs.map V.int, j, .int i, rfl, rfl, ci.sq H, ?_, h _ P H E_ New.refl .int⟩
        unfold atI at e ⊢
        rw [List.length_map]
        cases e2 : ixN vs.length j with
        | none => rw [e2] at e; cases e
        | some m => rw [e2] at e; simp only [Option.bind_some] at e ⊢; rw [List.getElem?_map, e]; rfl
  · cases g
theorem vPsum (c : CDct K w a ps) : VOp1 K (fun y H Q => rIxD K w (.ref a) y H fun x' H3 => rListU K [x'] H3 fun l H4 => rSum K [l] H4 Q) (gPsum ps) := by
  intro P H d v x Q pin r g h
  unfold gPsum at g
  split at g
  · rename_i z
    cases r
    have n := c.ns z
    obtain ⟨es, k, kd⟩ := c.kd
    cases q : ps.lookup z with
    | none => rw [q] at g; cases g
    | some vs =>
      rw [q] at g n
      obtain ⟨b, nb, ci⟩ := n
      cases g
      refine ⟨a, z, .ref b, rfl, rfl, ⟨es, k, .ref b, kd.at_, kd.lit, nb, rfl⟩, b, vs.map V.int, rfl, .inr (ci.sq H), fun l hl => ⟨l, vs, rfl, .inl (.inl upd_same), ?_⟩⟩
      exact h _ _ _ _ (New.lst hl pin) .int
  · cases g
theorem vNinD {X : Cx} (c : CDct X.K X.w a ps) : VOp1 X.K (fun x H Q => ∃ (z : Str) (r : Option Value), x = .str z ∧ V.ref a = .ref a ∧ PySem.W.nsIn X.K a z = some r ∧ Q (.bl (!r.isSome)) H) (gNinD ps) := by
  intro P H d v x Q pin r g h
  unfold gNinD at g
  split at g
  · rename_i z
    cases r
    cases g
    have n := c.ns z
    cases q : ps.lookup z with
    | none =>
      rw [q] at n h
      exact ⟨z, none, rfl, rfl, n, h _ P H E_ New.refl .bl⟩
    | some vs =>
      rw [q] at n h
      obtain ⟨b, nb, _⟩ := n
      exact ⟨z, some (.ref b), rfl, rfl, nb, h _ P H E_ New.refl .bl⟩
  · cases g
end
section
variable {X : Cx} {RX : RXR} {W : WX} {e : Expr} {x : Str} {p p2 p3 p4 p5 pos : Pos} {ps : List (Str × List Int)} {f : Ev → Option D} {j : Int} {u : Nat}
theorem dv_part (c : ∃ a, X.mg x = some (.ref a) ∧ CDct X.K X.w a ps) (hg : Gl X x) (ha : DV X e f) {q : Expr} (hq : PE X q (tC (.int j))) (hs : PlainIx e) (hs2 : PlainIx q) (hd : (x == ("__debug__" : Str)) = false := by decide) :
    DV X (.Subscript (.Subscript (.Name x p) e p2) q pos) (vOp1 (gPart ps j) f) := by
  obtain ⟨a, hm, c⟩ := c
  exact pe_imp (pe_ix ix_tup (pe_ix ix_kdict (pe_glob (v := .ref a) hg hm rfl hd) ha hs) hq hs2) fun σ H Q q => by have z := v_op1 (vPart c) q; exact z
theorem dv_psum (c : ∃ a, X.mg x = some (.ref a) ∧ CDct X.K X.w a ps) (hg : Gl X x) (ha : DV X e f) (hs : PlainIx e) (hc : X.calm = true) (gS : Gl X "sum") (mS : X.mg "sum" = none) (gL : Gl X "list") (mL : X.mg "list" = none) (hd : (x == ("__debug__" : Str)) = false := by decide) :
    DV X (.Call (.Name "sum" p3) [.Call (.Name "list" p4) [.Subscript (.Name x p) e p2] [] p5] [] pos) (vOp1 (gPsum ps) f) := by
  obtain ⟨a, hm, c⟩ := c
  exact pe_imp (pe_callB (cr_sum hc) gS mS boot_sum (pa_cons (pe_callTy call_list_of gL mL PyProof.Rows.boot_list (pa_cons (pe_ix ix_kdict (pe_glob (v := .ref a) hg hm rfl hd) ha hs) pa_nil)) pa_nil)) fun σ H Q q => by have z := v_op1 (vPsum c) q; exact z
theorem dt_ninD (c : ∃ a, X.mg x = some (.ref a) ∧ CDct X.K X.w a ps) (hg : Gl X x) (ha : DV X e f) (hd : (x == ("__debug__" : Str)) = false := by decide) : DT X RX W (.Compare e [.NotIn] [.Name x p] pos) (fTv (vOp1 (gNinD ps) f)) := by
  obtain ⟨a, hm, c⟩ := c
  obtain ⟨es, n, kd⟩ := c.kd
  exact pt_imp (pt_cmpR (op_notIn_kd kd) ha (pe_glob (v := .ref a) hg hm rfl hd) rfl) fun σ H Q q => v_op1 (vNinD c) (t_valV q)
end
section
variable {ps : List (Str × List Int)} {j : Int} {x : Str}
omit [TabC]
@[simp] theorem part_s : gPart ps j (.str x) = (ps.lookup x).bind fun vs => (atI vs j).map D.int := (rfl)
@[simp] theorem psum_s : gPsum ps (.str x) = (ps.lookup x).map fun vs => .int vs.sum := (rfl)
@[simp] theorem ninD_s : gNinD ps (.str x) = some (.bl (!(ps.lookup x).isSome)) := (rfl)
end
end Hap
namespace M
open PySem PySem.Spec PyProof.Rows L2 Hap
variable [TabC]
section
omit [TabC]
theorem strsD_map {α : Type} (f : α → Str) : ∀ l : List α, strsD (l.map fun x => D.str (f x)) = some (l.map f)
  | [] => rfl
  | x :: l => by rw [List.map_cons, strsD, strsD_map f l]; rfl
theorem strsD_strs (l : List Str) : strsD (l.map D.str) = some l := by
  have := strsD_map (fun x : Str => x) l
  rw [this, List.map_id']
theorem sum_le {b : Nat} : ∀ l : List Str, (∀ x ∈ l, x.length ≤ b) → (l.map (·.length)).sum ≤ l.length * b
  | [], _ => by simp
  | x :: l, h => by
    have h1 := sum_le l fun y hy => h y (List.mem_cons_of_mem _ hy)
    have h2 := h x List.mem_cons_self
    simp only [List.map_cons, List.sum_cons, List.length_cons]
    rw [Nat.succ_mul]; omega
theorem joinD {o : Bool} {a : Str} {l : List Str} (h : (l.map (·.length)).sum + l.length * a.length ≤ 16777216) : gJoin (.str a) (.lst o (l.map D.str)) = some (.str (Txt.join a l)) := by
  unfold gJoin
  simp only [lstOf_l, Option.bind_some, strsD_strs]
  rw [if_pos h]
theorem join_len (a : Str) (l : List Str) : (Txt.join a l).length ≤ (l.map (·.length)).sum + l.length * a.length := by
  rw [TL.join_eq]
  exact StrLaws.join_length_le a l
def spS : Str := Str.ofString " "
theorem spS_tl : TL.tl spS = [32] := by decide +kernel
theorem spS_len : spS.length = 1 := by decide +kernel
/-- words of a row: no blanks, short -/
structure WordOk (x : Str) : Prop where
  sp : 32 ∉ TL.tl x
  nl : 10 ∉ TL.tl x
  len : x.length ≤ 8
theorem word_lit {x : Str} (h1 : 32 ∉ TL.tl x) (h2 : 10 ∉ TL.tl x) (h3 : x.length ≤ 8) : WordOk x := ⟨h1, h2, h3⟩
def rowT (ws : List Str) : Str := Txt.join spS ws
theorem row_join {o : Bool} {ws : List Str} (hf : ws.length ≤ 100) (hw : ∀ x ∈ ws, WordOk x) : gJoin (.str spS) (.lst o (ws.map D.str)) = some (.str (rowT ws)) := by
  refine joinD ?_
  have := sum_le ws fun x hx => (hw x hx).len
  rw [spS_len]; omega
theorem row_len {ws : List Str} (hf : ws.length ≤ 100) (hw : ∀ x ∈ ws, WordOk x) : (rowT ws).length ≤ 1000 := by
  have h1 := join_len spS ws
  have := sum_le ws fun x hx => (hw x hx).len
  rw [spS_len] at h1
  show (Txt.join spS ws).length ≤ _
  omega
theorem row_split {ws : List Str} (hn : ws ≠ []) (hw : ∀ x ∈ ws, WordOk x) : Txt.split (rowT ws) spS = ws :=
  TL.split_join (s := 32) (S := []) spS_tl (by decide +kernel) hn fun p hp => (hw p hp).sp
theorem row_gsplit {ws : List Str} (hn : ws ≠ []) (hf : ws.length ≤ 100) (hw : ∀ x ∈ ws, WordOk x) : gSplit (.str (rowT ws)) [.str spS] = some (.lst true (ws.map D.str)) := by
  rw [split_s, if_pos ⟨by decide +kernel, Nat.le_trans (Nat.add_le_add_right (row_len hf hw) 2) (by decide)⟩, row_split hn hw]
end
end M
namespace Law
open PySem PySem.Spec PyProof.Rows L2 Hap M
def top (i : Nat) : Stmt := PySem.Challenge.pw_handsapart_k63_sets_written.main.body.getD i (.Pass ⟨0, 0, 0, 0⟩)
abbrev s__law_bag : Stmt := top 56
theorem sc__law_bag : FnScope ["_law_cell_here"] ["_law_cell_here"] (defScope s__law_bag) := ⟨rfl, rfl, rfl, by decide +kernel, rfl, by decide +kernel, by decide +kernel⟩
abbrev s__law_take : Stmt := top 57
theorem sc__law_take : FnScope ["_law_bag_here", "_law_many", "_law_digit"] ["_law_bag_here", "_law_many"] (defScope s__law_take) := ⟨rfl, rfl, rfl, by decide +kernel, rfl, by decide +kernel, by decide +kernel⟩
abbrev s__law_house : Stmt := top 58
theorem sc__law_house : FnScope ["_law_bag_here", "_law_hands", "_law_many", "_law_few", "_law_letters", "_law_at", "_law_k", "_law_bits", "_law_hand"] ["_law_bag_here"] (defScope s__law_house) := ⟨rfl, rfl, rfl, by decide +kernel, rfl, by decide +kernel, by decide +kernel⟩
abbrev s__law_house_copy : Stmt := top 62
theorem sc__law_house_copy : FnScope ["_law_house_here", "_law_letter", "_law_owned"] ["_law_house_here"] (defScope s__law_house_copy) := ⟨rfl, rfl, rfl, by decide +kernel, rfl, by decide +kernel, by decide +kernel⟩
abbrev s__law_set : Stmt := top 66
theorem sc__law_set : FnScope ["_law_bag_here", "_law_house_here", "_law_rows", "_law_tuples", "_law_kind", "_law_row", "_law_mine", "_law_left", "_law_one", "_law_word_here", "_law_k"] ["_law_bag_here", "_law_house_here", "_law_rows", "_law_tuples"] (defScope s__law_set) := ⟨rfl, rfl, rfl, by decide +kernel, rfl, by decide +kernel, by decide +kernel⟩
abbrev s__law_deep : Stmt := top 70
theorem sc__law_deep : FnScope ["_law_one", "_law_many", "_law_k"] ["_law_one", "_law_many"] (defScope s__law_deep) := ⟨rfl, rfl, rfl, by decide +kernel, rfl, by decide +kernel, by decide +kernel⟩
abbrev s__law_thirteen : Stmt := top 71
theorem sc__law_thirteen : FnScope ["_law_letter", "_law_one"] ["_law_letter"] (defScope s__law_thirteen) := ⟨rfl, rfl, rfl, by decide +kernel, rfl, by decide +kernel, by decide +kernel⟩
abbrev s__law_no_set : Stmt := top 72
theorem sc__law_no_set : FnScope ["_law_bag_here", "_law_house_here", "_law_one", "_law_letter", "_law_kind", "_law_odd", "_law_bad", "_law_wide", "_law_k", "_law_some"] ["_law_bag_here", "_law_house_here", "_law_one"] (defScope s__law_no_set) := ⟨rfl, rfl, rfl, by decide +kernel, rfl, by decide +kernel, by decide +kernel⟩
abbrev s__law_no_house : Stmt := top 65
theorem sc__law_no_house : FnScope ["_law_bag_here", "_law_house_here", "_law_hands", "_law_letters", "_law_odd", "_law_kind", "_law_at", "_law_letter", "_law_owned", "_law_which", "_law_entry", "_law_bad", "_law_sign"] ["_law_bag_here", "_law_house_here"] (defScope s__law_no_house) := ⟨rfl, rfl, rfl, by decide +kernel, rfl, by decide +kernel, by decide +kernel⟩
abbrev s__law_row_word : Stmt := top 67
theorem sc__law_row_word : FnScope ["_law_row"] ["_law_row"] (defScope s__law_row_word) := ⟨rfl, rfl, rfl, by decide +kernel, rfl, by decide +kernel, by decide +kernel⟩
abbrev s__law_set_words : Stmt := top 68
theorem sc__law_set_words : FnScope ["_law_one", "_law_found", "_law_part"] ["_law_one"] (defScope s__law_set_words) := ⟨rfl, rfl, rfl, by decide +kernel, rfl, by decide +kernel, by decide +kernel⟩
abbrev s__law_same_set : Stmt := top 69
theorem sc__law_same_set : FnScope ["_law_found", "_law_due", "_law_one", "_law_other"] ["_law_found", "_law_due"] (defScope s__law_same_set) := ⟨rfl, rfl, rfl, by decide +kernel, rfl, by decide +kernel, by decide +kernel⟩
abbrev s__law_cell : Stmt := top 55
theorem sc__law_cell : FnScope ["_law_script", "_law_k"] ["_law_script", "_law_k"] (defScope s__law_cell) := ⟨rfl, rfl, rfl, by decide +kernel, rfl, by decide +kernel, by decide +kernel⟩
abbrev s__law_whole : Stmt := top 59
theorem sc__law_whole : FnScope ["_law_thing"] ["_law_thing"] (defScope s__law_whole) := ⟨rfl, rfl, rfl, by decide +kernel, rfl, by decide +kernel, by decide +kernel⟩
abbrev s__law_same : Stmt := top 60
theorem sc__law_same : FnScope ["_law_found", "_law_due", "_law_one", "_law_other"] ["_law_found", "_law_due"] (defScope s__law_same) := ⟨rfl, rfl, rfl, by decide +kernel, rfl, by decide +kernel, by decide +kernel⟩
abbrev s_is_whole : Stmt := top 22
theorem sc_is_whole : FnScope ["thing"] ["thing"] (defScope s_is_whole) := ⟨rfl, rfl, rfl, by decide +kernel, rfl, by decide +kernel, by decide +kernel⟩
abbrev s_is_sign : Stmt := top 24
theorem sc_is_sign : FnScope ["thing"] ["thing"] (defScope s_is_sign) := ⟨rfl, rfl, rfl, by decide +kernel, rfl, by decide +kernel, by decide +kernel⟩
abbrev s_is_rising : Stmt := top 23
theorem sc_is_rising : FnScope ["things", "many", "ahead", "thing"] ["things", "many"] (defScope s_is_rising) := ⟨rfl, rfl, rfl, by decide +kernel, rfl, by decide +kernel, by decide +kernel⟩
abbrev s_is_entry : Stmt := top 25
theorem sc_is_entry : FnScope ["thing", "hands"] ["thing", "hands"] (defScope s_is_entry) := ⟨rfl, rfl, rfl, by decide +kernel, rfl, by decide +kernel, by decide +kernel⟩
abbrev s_is_house : Stmt := top 26
theorem sc_is_house : FnScope ["thing", "hands", "letters", "ahead", "entry"] ["thing"] (defScope s_is_house) := ⟨rfl, rfl, rfl, by decide +kernel, rfl, by decide +kernel, by decide +kernel⟩
abbrev s_look_house : Stmt := top 27
theorem sc_look_house : FnScope ["thing"] ["thing"] (defScope s_look_house) := ⟨rfl, rfl, rfl, by decide +kernel, rfl, by decide +kernel, by decide +kernel⟩
abbrev s_look_text : Stmt := top 49
theorem sc_look_text : FnScope ["thing"] ["thing"] (defScope s_look_text) := ⟨rfl, rfl, rfl, by decide +kernel, rfl, by decide +kernel, by decide +kernel⟩
abbrev s_read_row : Stmt := top 48
theorem sc_read_row : FnScope ["word", "sign"] ["word"] (defScope s_read_row) := ⟨rfl, rfl, rfl, by decide +kernel, rfl, by decide +kernel, by decide +kernel⟩
abbrev s_read_first : Stmt := top 50
theorem sc_read_first : FnScope ["words", "at", "word"] ["words", "at"] (defScope s_read_first) := ⟨rfl, rfl, rfl, by decide +kernel, rfl, by decide +kernel, by decide +kernel⟩
abbrev s_is_done : Stmt := top 51
theorem sc_is_done : FnScope ["one"] ["one"] (defScope s_is_done) := ⟨rfl, rfl, rfl, by decide +kernel, rfl, by decide +kernel, by decide +kernel⟩
abbrev s_read_words : Stmt := top 52
theorem sc_read_words : FnScope ["words", "waiting", "at", "many", "one"] ["words"] (defScope s_read_words) := ⟨rfl, rfl, rfl, by decide +kernel, rfl, by decide +kernel, by decide +kernel⟩
abbrev s_letters_of : Stmt := top 28
theorem sc_letters_of : FnScope ["house", "letter", "owned"] ["house"] (defScope s_letters_of) := ⟨rfl, rfl, rfl, by decide +kernel, rfl, by decide +kernel, by decide +kernel⟩
abbrev s_is_row : Stmt := top 29
theorem sc_is_row : FnScope ["house", "thing", "sign"] ["house", "thing"] (defScope s_is_row) := ⟨rfl, rfl, rfl, by decide +kernel, rfl, by decide +kernel, by decide +kernel⟩
abbrev s_tuples_in : Stmt := top 37
theorem sc_tuples_in : FnScope ["house", "thing", "found", "part", "some", "word"] ["house", "thing"] (defScope s_tuples_in) := ⟨rfl, rfl, rfl, by decide +kernel, rfl, by decide +kernel, by decide +kernel⟩
abbrev s_is_set_of : Stmt := top 38
theorem sc_is_set_of : FnScope ["house", "thing", "found", "one"] ["house", "thing"] (defScope s_is_set_of) := ⟨rfl, rfl, rfl, by decide +kernel, rfl, by decide +kernel, by decide +kernel⟩
abbrev s_is_set : Stmt := top 39
theorem sc_is_set : FnScope ["house", "thing"] ["house", "thing"] (defScope s_is_set) := ⟨rfl, rfl, rfl, by decide +kernel, rfl, by decide +kernel, by decide +kernel⟩
abbrev s_read_set : Stmt := top 53
theorem sc_read_set : FnScope ["house", "text", "one", "many"] ["house", "text"] (defScope s_read_set) := ⟨rfl, rfl, rfl, by decide +kernel, rfl, by decide +kernel, by decide +kernel⟩
abbrev s_look_set : Stmt := top 40
theorem sc_look_set : FnScope ["house", "thing"] ["house", "thing"] (defScope s_look_set) := ⟨rfl, rfl, rfl, by decide +kernel, rfl, by decide +kernel, by decide +kernel⟩
abbrev s_show_row : Stmt := top 45
theorem sc_show_row : FnScope ["row"] ["row"] (defScope s_show_row) := ⟨rfl, rfl, rfl, by decide +kernel, rfl, by decide +kernel, by decide +kernel⟩
abbrev s_words_of : Stmt := top 46
theorem sc_words_of : FnScope ["one", "found", "part"] ["one"] (defScope s_words_of) := ⟨rfl, rfl, rfl, by decide +kernel, rfl, by decide +kernel, by decide +kernel⟩
abbrev s_show_set : Stmt := top 47
theorem sc_show_set : FnScope ["house", "one"] ["house", "one"] (defScope s_show_set) := ⟨rfl, rfl, rfl, by decide +kernel, rfl, by decide +kernel, by decide +kernel⟩
abbrev s_law : Stmt := top 73
theorem sc_law : FnScope ["_law_script", "_law_k", "_law_bag_here", "_law_house_here", "_law_handed", "_law_one", "_law_text", "_law_most", "_law_bad", "_law_none"] ["_law_script"] (defScope s_law) := ⟨rfl, rfl, rfl, by decide +kernel, rfl, by decide +kernel, by decide +kernel⟩
def b__law_set (rec : Fn) : Ev → RS :=
  (fSeq (fAsg (fCallIO 0 2 m__law_take (fCons (fK (.int 8)) fNil)) (gN 4))
    (fSeq (fIf (fAnd (fTv (vOp2 gEq (vVar 4) (vK (.int 2)))) (fTv (vOp2 gGt (vVar 3) (vK (.int 1)))))
    (fRet (fTup (fCons (fK (.str "not")) (fCons (fCallIO 0 4 rec (fCons (fVar 1) (fCons (fVar 2) (fCons (fI (vOp2 gSub (vVar 3) (vK (.int 1)))) fNil)))) fNil))))
    fNext)
    (fSeq (fIf (fOr (fTv (vOp2 gLt (vVar 4) (vK (.int 3)))) (fOr (fTv (vOp2 gLt (vVar 2) (vK (.int 2)))) (fTv (vOp2 gLt (vVar 3) (vK (.int 3))))))
    (fSeq (fAsg (fJoin (fK (.str "")) (fLc (fItN rng1 (fCons (fCallIO 0 2 m__law_take (fCons (fK (.int 5)) fNil)) fNil)) (gN 10) fYes (fOp2 gIxI (fOp2 gIxI (fI (vOp2 gIx (vVar 1) (vK (.int 1)))) (fCallIO 0 2 m__law_take (fCons (fI (vOpN gLen (vCons (vOp2 gIx (vVar 1) (vK (.int 1))) vNil))) fNil))) (fK (.int 0))) [10])) (gN 5))
    (fRet (fTup (fCons (fI (vOp2 gIx (vLst (vCons (vK (.str "row")) (vCons (vK (.str "again")) vNil))) (vOp2 gMod (vVar 4) (vK (.int 2))))) (fConsL 5 fNil)))))
    fNext)
    (fSeq (fAsg (fOp2 gAdd (fK (.int 1)) (fCallIO 0 2 m__law_take (fCons (fI (vOp2 gSub (vVar 2) (vK (.int 1)))) fNil))) (gN 6))
    (fSeq (fAsg (fOp2 gAdd (fK (.int 1)) (fCallIO 0 2 m__law_take (fCons (fI (vOp2 gSub (vVar 3) (vK (.int 2)))) fNil))) (gN 7))
    (fSeq (fAsg (fCallIO 0 4 rec (fCons (fVar 1) (fCons (fVar 6) (fCons (fVar 7) fNil)))) (gN 8))
    (fSeq (fAsg (fI (vOp2 gIx (vLst (vCons (vK (.str "either")) (vCons (vK (.str "both")) (vCons (vK (.str "then")) vNil)))) (vOp2 gMod (vVar 4) (vK (.int 3))))) (gN 9))
    (fRet (fTup (fConsL 9 (fConsL 8 (fCons (fCallIO 0 4 rec (fCons (fVar 1) (fCons (fI (vOp2 gSub (vVar 2) (vVar 6))) (fCons (fI (vOp2 gSub (vOp2 gSub (vVar 3) (vK (.int 1))) (vVar 7))) fNil)))) fNil))))))))))))
def r__law_set : Nat → Fn
  | 0 => semOf (true :: List.replicate 3 false) 11 fun _ => .stk
  | n + 1 => semOf (true :: List.replicate 3 false) 11 (b__law_set (r__law_set n))
def m__law_set : Fn := r__law_set 13
def l__law_deep_1 : Ev → RS :=
  (fAsg (fTup (fCons (fK (.str "not")) (fCons (fVar 0) fNil))) (gN 0))
def b__law_deep : Ev → RS :=
  (fSeq (fFor (fItN rng1 (fCons (fVar 1) fNil)) (gN 2) l__law_deep_1)
    (fRet (fMv 0)))
def m__law_deep : Fn := semOf (List.replicate 2 false) 3 b__law_deep
def b__law_thirteen : Ev → RS :=
  (fSeq (fAsg (fTup (fCons (fK (.str "not")) (fCons (fTup (fCons (fK (.str "row")) (fCons (fVar 0) fNil))) fNil))) (gN 1))
    (fRet (fCall 2 m__law_deep (fCons (fTup (fCons (fK (.str "either")) (fCons (fTup (fCons (fK (.str "either")) (fCons (fVar 1) (fCons (fVar 1) fNil)))) (fCons (fTup (fCons (fK (.str "both")) (fCons (fVar 1) (fCons (fVar 1) fNil)))) fNil)))) (fCons (fK (.int 2)) fNil)))))
def m__law_thirteen : Fn := semOf (List.replicate 1 false) 2 b__law_thirteen
def l__law_no_set_1 : Ev → RS :=
  (fAsg (fTup (fCons (fK (.str "either")) (fCons (fVar 7) (fCons (fTup (fCons (fK (.str "row")) (fCons (fVar 3) fNil))) fNil)))) (gN 7))
def b__law_no_set : Ev → RS :=
  (fSeq (fAsg (fOp2 gIxI (fOp2 gIxI (fI (vOp2 gIx (vVar 1) (vK (.int 1)))) (fCallIO 0 2 m__law_take (fCons (fI (vOpN gLen (vCons (vOp2 gIx (vVar 1) (vK (.int 1))) vNil))) fNil))) (fK (.int 0))) (gN 3))
    (fSeq (fAsg (fCallIO 0 2 m__law_take (fCons (fK (.int 12)) fNil)) (gN 4))
    (fSeq (fAsg (fOp2 gIxI (fFz (fLst (fCons (fK .non) (fCons (fK (.bl true)) (fCons (fK (.int 0)) (fCons (fK (.str "")) (fCons (fK (.str "row")) (fCons (fLst fNil) (fCons (fTup fNil) (fCons (fLst (fCons (fK (.str "row")) (fCons (fVar 3) fNil))) (fCons (fTup (fCons (fVar 3) fNil)) (fCons (fI (vOp2 gPow (vK (.int 10)) (vK (.int 39)))) fNil)))))))))))) (fCallIO 0 2 m__law_take (fCons (fK (.int 10)) fNil))) (gN 5))
    (fSeq (fAsg (fOp2 gIxI (fFz (fLst (fCons (fK .non) (fCons (fK (.int 5)) (fCons (fI (vOp2 gMulX (vVar 3) (vK (.int 5)))) (fCons (fOp1 gUpper (fVar 3)) (fCons (fTup (fCons (fVar 3) fNil)) (fCons (fLst (fCons (fVar 3) fNil)) (fCons (fK (.str "-")) (fCons (fI (vOp2 gAdd (vVar 3) (vK (.str " ")))) fNil)))))))))) (fCallIO 0 2 m__law_take (fCons (fK (.int 8)) fNil))) (gN 6))
    (fSeq (fAsg (fTup (fCons (fK (.str "row")) (fCons (fVar 3) fNil))) (gN 7))
    (fSeq (fFor (fItN rng1 (fCons (fK (.int 5)) fNil)) (gN 8) l__law_no_set_1)
    (fSeq (fAsg (fLst (fCons (fVar 5) (fCons (fTup (fCons (fK (.str "row")) fNil)) (fCons (fTup (fCons (fK (.str "row")) (fCons (fVar 6) fNil))) (fCons (fTup (fCons (fK (.str "again")) (fCons (fVar 6) fNil))) (fCons (fTup (fCons (fK (.str "row")) (fCons (fVar 3) (fCons (fVar 3) fNil)))) (fCons (fTup (fCons (fK (.str "not")) fNil)) (fCons (fTup (fCons (fK (.str "not")) (fCons (fVar 5) fNil))) fNil)))))))) (gN 9))
    (fSeq (fAsg (fOp2 gAdd (fVar 9) (fFz (fLst (fCons (fTup (fCons (fK (.str "not")) (fCons (fVar 2) (fCons (fVar 2) fNil)))) (fCons (fTup (fCons (fK (.str "either")) (fCons (fVar 2) fNil))) (fCons (fTup (fCons (fK (.str "then")) (fCons (fVar 2) (fCons (fVar 5) fNil)))) (fCons (fVar 7) (fCons (fCall 1 m__law_thirteen (fCons (fVar 3) fNil)) fNil)))))))) (gN 9))
    (fRet (fOp2 gIxI (fVar 9) (fVar 4)))))))))))
def m__law_no_set : Fn := semOf (true :: List.replicate 2 false) 10 b__law_no_set
def b__law_no_house : Ev → RS :=
  (fSeq (fAsg (fVar 1) (gT 2 (gsC (gN 2) (gsC (gN 3) gsN))))
    (fSeq (fAsg (fOp2 gIxI (fFz (fLst (fCons (fK .non) (fCons (fK (.bl true)) (fCons (fK (.int 0)) (fCons (fK (.str "")) (fCons (fLst fNil) (fCons (fTup fNil) (fCons (fI (vOp2 gPow (vK (.int 10)) (vK (.int 39)))) (fCons (fI (vOp1 gNeg (vK (.int 1)))) (fCons (fK (.str "a")) (fCons (fLst (fCons (fK (.int 0)) fNil)) (fCons (fTup (fCons (fK (.int 0)) fNil)) fNil))))))))))))) (fCallIO 0 2 m__law_take (fCons (fK (.int 11)) fNil))) (gN 4))
    (fSeq (fAsg (fCallIO 0 2 m__law_take (fCons (fK (.int 12)) fNil)) (gN 5))
    (fSeq (fAsg (fCallIO 0 2 m__law_take (fCons (fI (vOpN gLen (vCons (vVar 3) vNil))) fNil)) (gN 6))
    (fSeq (fAsg (fI (vOp2 gIx (vVar 3) (vVar 6))) (gT 2 (gsC (gN 7) (gsC (gN 8) gsN))))
    (fSeq (fAsg (fCallIO 0 2 m__law_take (fCons (fK (.int 8)) fNil)) (gN 9))
    (fSeq (fIf (fTv (vOp2 gLt (vVar 5) (vK (.int 3))))
    (fRet (fOp2 gIxI (fFz (fLst (fCons (fVar 4) (fCons (fLst (fCons (fVar 2) (fCons (fVar 3) fNil))) (fCons (fTup (fCons (fVar 2) (fCons (fVar 3) (fCons (fVar 4) fNil)))) fNil))))) (fVar 5)))
    fNext)
    (fSeq (fIf (fTv (vOp2 gEq (vVar 5) (vK (.int 3))))
    (fRet (fTup (fCons (fI (vOp2 gIx (vLst (vCons (vK (.int 1)) (vCons (vK (.int 5)) (vCons (vK (.int 0)) (vCons (vOp1 gNeg (vK (.int 1))) (vCons (vK (.bl true)) (vCons (vK (.str "2")) (vCons (vK .non) (vCons (vOp2 gPow (vK (.int 10)) (vK (.int 39))) vNil))))))))) (vVar 9))) (fConsL 3 fNil))))
    fNext)
    (fSeq (fIf (fTv (vOp2 gLt (vVar 5) (vK (.int 6))))
    (fRet (fOp2 gIxI (fFz (fLst (fCons (fTup (fCons (fVar 2) (fCons (fOpN gTuple (fCons (fVar 3) fNil)) fNil))) (fCons (fTup (fCons (fVar 2) (fCons (fLst fNil) fNil))) fNil)))) (fI (vOp2 gSub (vVar 5) (vK (.int 4))))))
    fNext)
    (fSeq (fIf (fTv (vOp2 gEq (vVar 5) (vK (.int 6))))
    (fRet (fTup (fConsL 2 (fCons (fOp2 gAdd (fVar 3) (fFz (fLst (fCons (fI (vOp2 gIx (vVar 3) (vVar 6))) fNil)))) fNil))))
    fNext)
    (fSeq (fIf (fTv (vOp2 gEq (vVar 5) (vK (.int 7))))
    (fAsg (fTup (fCons (fOp2 gIxI (fFz (fLst (fCons (fK (.str "")) (fCons (fK (.str "A")) (fCons (fK (.str "ab")) (fCons (fK (.str "-")) (fCons (fK (.str "1")) (fCons (fK .non) (fCons (fK (.int 5)) (fCons (fTup (fCons (fK (.str "a")) fNil)) fNil)))))))))) (fVar 9)) (fCons (fVar 8) fNil))) (gN 10))
    (fIf (fTv (vOp2 gEq (vVar 5) (vK (.int 8))))
    (fSeq (fAsg (fOp2 gIxI (fFz (fLst (fCons (fLst fNil) (fCons (fOp2V gAdd (fVar 8) (vVar 8)) (fCons (fOp2V gAdd (fVar 8) (vLst (vCons (vVar 2) vNil))) (fCons (fOp2V gAdd (fLst (fCons (fI (vOp1 gNeg (vK (.int 1)))) fNil)) (vVar 8)) (fCons (fOpN gTuple (fCons (fVar 8) fNil)) (fCons (fLst (fCons (fK (.bl true)) fNil)) (fCons (fK .non) (fCons (fK (.str "0")) fNil)))))))))) (fVar 9)) (gN 11))
    (fAsg (fTup (fCons (fVar 7) (fCons (fVar 11) fNil))) (gN 10)))
    (fIf (fTv (vOp2 gEq (vVar 5) (vK (.int 9))))
    (fAsg (fOp2 gIxI (fFz (fLst (fCons (fLst (fCons (fVar 7) (fCons (fVar 8) fNil))) (fCons (fTup (fCons (fVar 7) fNil)) (fCons (fTup (fCons (fVar 7) (fCons (fVar 8) (fCons (fVar 4) fNil)))) (fCons (fVar 7) (fCons (fK .non) (fCons (fK (.int 3)) (fCons (fTup fNil) (fCons (fTup (fCons (fVar 8) (fCons (fVar 7) fNil))) fNil)))))))))) (fVar 9)) (gN 10))
    (fIf (fTv (vOp2 gEq (vVar 5) (vK (.int 10))))
    (fRet (fTup (fConsL 2 (fCons (fOp2V gRep (fOp1 gRevL (fVar 3)) (vOpN gInt (vCons (vOp2 gGt (vOpN gLen (vCons (vVar 3) vNil)) (vK (.int 1))) vNil))) fNil))))
    (fRet (fTup (fConsL 2 (fCons (fLc (fIt itemsS (fK (.str "abcdefg"))) (gN 12) fYes (fTup (fCons (fVar 12) (fCons (fLst (fCons (fK (.int 0)) fNil)) fNil))) [12]) fNil))))))))
    (fRet (fTup (fConsL 2 (fCons (fOp2 gAdd (fOp2 gAdd (fSl (fVar 3) fO0 (fO (fVar 6))) (fLst (fCons (fVar 10) fNil))) (fSl (fVar 3) (fO (fI (vOp2 gAdd (vVar 6) (vK (.int 1))))) fO0)) fNil)))))))))))))))
def m__law_no_house : Fn := semOf (true :: List.replicate 1 false) 13 b__law_no_house
def b__law_row_word : Ev → RS :=
  (fRet (fOp2 gIxI (fFz (fLst (fCons (fVar 0) (fCons (fK (.str "-")) fNil)))) (fI (vOpN gInt (vCons (vOp2 gEq (vVar 0) (vK (.str ""))) vNil)))))
def m__law_row_word : Fn := semOf (List.replicate 1 false) 1 b__law_row_word
def l__law_set_words_1 (rec : Fn) : Ev → RS :=
  (fAsg (fOp2 gAdd (fVar 1) (fCall 1 rec (fCons (fVar 2) fNil))) (gN 1))
def b__law_set_words (rec : Fn) : Ev → RS :=
  (fSeq (fIf (fOr (fTv (vOp2 gEq (vOp2 gIx (vVar 0) (vK (.int 0))) (vK (.str "row")))) (fTv (vOp2 gEq (vOp2 gIx (vVar 0) (vK (.int 0))) (vK (.str "again")))))
    (fRet (fLst (fCons (fI (vOp2 gIx (vVar 0) (vK (.int 0)))) (fCons (fCall 1 m__law_row_word (fCons (fI (vOp2 gIx (vVar 0) (vK (.int 1)))) fNil)) fNil))))
    fNext)
    (fSeq (fAsg (fLst (fCons (fI (vOp2 gIx (vVar 0) (vK (.int 0)))) fNil)) (gN 1))
    (fSeq (fFor (fIt itemsT (fSl (fVar 0) (fO (fK (.int 1))) fO0)) (gN 2) (l__law_set_words_1 rec))
    (fRet (fMv 1)))))
def r__law_set_words : Nat → Fn
  | 0 => semOf (List.replicate 1 false) 3 fun _ => .stk
  | n + 1 => semOf (List.replicate 1 false) 3 (b__law_set_words (r__law_set_words n))
def m__law_set_words : Fn := r__law_set_words 13
def b__law_same_set (rec : Fn) : Ev → RS :=
  (fSeq (fIf (fNot (fTv (vOpN gIsi (vCons (vVar 1) (vCons (vK (.gv (.ty "tuple"))) vNil)))))
    (fRet (fAndD (fI (vOpN gIsi (vCons (vVar 0) (vCons (vK (.gv (.ty "str"))) vNil)))) (fI (vOp2 gEq (vVar 0) (vVar 1)))))
    fNext)
    (fSeq (fIf (fOr (fNot (fTv (vOpN gIsi (vCons (vVar 0) (vCons (vK (.gv (.ty "tuple"))) vNil))))) (fTv (vOp2 gNe (vOpN gLen (vCons (vVar 0) vNil)) (vOpN gLen (vCons (vVar 1) vNil)))))
    (fRet (fK (.bl false)))
    fNext)
    (fRet (fOpN gAll (fCons (fLc (fItN zipLT (fCons (fVar 0) (fCons (fVar 1) fNil))) (gT 2 (gsC (gN 2) (gsC (gN 3) gsN))) fYes (fCall 2 rec (fCons (fVar 2) (fCons (fVar 3) fNil))) [2, 3]) fNil)))))
def r__law_same_set : Nat → Fn
  | 0 => semOf (List.replicate 2 false) 4 fun _ => .stk
  | n + 1 => semOf (List.replicate 2 false) 4 (b__law_same_set (r__law_same_set n))
def m__law_same_set : Fn := r__law_same_set 14
def b__law_same (rec : Fn) : Ev → RS :=
  (fSeq (fIf (fTv (vOpN gIsi (vCons (vVar 1) (vCons (vK (.gv (.ty "tuple"))) vNil))))
    (fSeq (fIf (fOr (fNot (fTv (vOpN gIsi (vCons (vVar 0) (vCons (vK (.gv (.ty "tuple"))) vNil))))) (fTv (vOp2 gNe (vOpN gLen (vCons (vVar 0) vNil)) (vOpN gLen (vCons (vVar 1) vNil)))))
    (fRet (fK (.bl false)))
    fNext)
    fStk)
    fNext)
    (fSeq (fIf (fTv (vOpN gIsi (vCons (vVar 1) (vCons (vK (.gv (.ty "str"))) vNil))))
    (fRet (fAndD (fI (vOpN gIsi (vCons (vVar 0) (vCons (vK (.gv (.ty "str"))) vNil)))) (fI (vOp2 gEq (vVar 0) (vVar 1)))))
    fNext)
    (fSeq (fIf (fTv (vOp2 gIs' (vVar 1) (vK .non)))
    (fRet (fI (vOp2 gIs' (vVar 0) (vK .non))))
    fNext)
    (fRet (fAndD (fCall 1 m__law_whole (fCons (fVar 0) fNil)) (fI (vOp2 gEq (vVar 0) (vVar 1))))))))
def r__law_same : Nat → Fn
  | 0 => semOf (List.replicate 2 false) 4 fun _ => .stk
  | n + 1 => semOf (List.replicate 2 false) 4 (b__law_same (r__law_same n))
def m__law_same : Fn := r__law_same 6
def b_look_text : Ev → RS :=
  (fIf (fNot (fTv (vOpN gIsi (vCons (vVar 0) (vCons (vK (.gv (.ty "str"))) vNil)))))
    (fRaise "NoText")
    fNext)
def m_look_text : Fn := semOf (List.replicate 1 false) 1 b_look_text
def l_read_row_1 : Ev → RS :=
  (fIf (fTv (vOp2 gNin (vVar 1) (vK (.str "abcdefghijklmnopqrstuvwxyz"))))
    (fRaise "NoText")
    fNext)
def b_read_row : Ev → RS :=
  (fSeq (fIf (fTv (vOp2 gEq (vVar 0) (vK (.str "-"))))
    (fRet (fK (.str "")))
    fNext)
    (fSeq (fIf (fTv (vOp2 gEq (vVar 0) (vK (.str ""))))
    (fRaise "NoText")
    fNext)
    (fSeq (fFor (fIt itemsS (fVar 0)) (gN 1) l_read_row_1)
    (fRet (fMv 0)))))
def m_read_row : Fn := semOf (List.replicate 1 false) 2 b_read_row
def b_read_first : Ev → RS :=
  (fSeq (fAsg (fI (vOp2 gIx (vVar 0) (vVar 1))) (gN 2))
    (fSeq (fIf (fTv (vOp1 (gNinD [("row", [(0 : Int), 1]), ("again", [(0 : Int), 1]), ("not", [(1 : Int), 0]), ("either", [(2 : Int), 0]), ("both", [(2 : Int), 0]), ("then", [(2 : Int), 0])]) (vVar 2)))
    (fRaise "NoText")
    fNext)
    (fSeq (fIf (fTv (vOp2 gEq (vOp1 (gPart [("row", [(0 : Int), 1]), ("again", [(0 : Int), 1]), ("not", [(1 : Int), 0]), ("either", [(2 : Int), 0]), ("both", [(2 : Int), 0]), ("then", [(2 : Int), 0])] 1) (vVar 2)) (vK (.int 0))))
    (fRet (fTup (fCons (fTup (fCons (fVar 2) fNil)) (fCons (fI (vOp2 gAdd (vVar 1) (vK (.int 1)))) fNil))))
    fNext)
    (fSeq (fIf (fTv (vOp2 gEq (vOp2 gAdd (vVar 1) (vK (.int 1))) (vOpN gLen (vCons (vVar 0) vNil))))
    (fRaise "NoText")
    fNext)
    (fRet (fTup (fCons (fTup (fCons (fVar 2) (fCons (fCall 1 m_read_row (fCons (fI (vOp2 gIx (vVar 0) (vOp2 gAdd (vVar 1) (vK (.int 1))))) fNil)) fNil))) (fCons (fI (vOp2 gAdd (vVar 1) (vK (.int 2)))) fNil))))))))
def m_read_first : Fn := semOf (List.replicate 2 false) 3 b_read_first
def b_is_done : Ev → RS :=
  (fRet (fI (vOp2 gEq (vOpN gLen (vCons (vVar 0) vNil)) (vOp2 gAdd (vK (.int 1)) (vOp1 (gPsum [("row", [(0 : Int), 1]), ("again", [(0 : Int), 1]), ("not", [(1 : Int), 0]), ("either", [(2 : Int), 0]), ("both", [(2 : Int), 0]), ("then", [(2 : Int), 0])]) (vOp2 gIx (vVar 0) (vK (.int 0))))))))
def m_is_done : Fn := semOf (List.replicate 1 false) 1 b_is_done
def l_read_words_1 : Ev → RS :=
  (fAsg (fOp2 gAddT (fPop0 1) (fTup (fCons (fVar 4) fNil))) (gN 4))
def l_read_words_2 : Ev → RS :=
  (fSeq (fAsg (fCall 2 m_read_first (fCons (fVar 0) (fCons (fVar 2) fNil))) (gT 2 (gsC (gN 4) (gsC (gN 2) gsN))))
    (fSeq (fAug 3 (gI2 fun i j => i + j) (fK (.int 1)))
    (fSeq (fWhile fuel (fAnd (fTb (fCall 1 m_is_done (fCons (fVar 4) fNil))) (fTv (vOp2 gGt (vOpN gLen (vCons (vVar 1) vNil)) (vK (.int 0))))) l_read_words_1)
    (fSeq (fAppend 1 (fConsL 4 fNil))
    (fIf (fAnd (fTb (fCall 1 m_is_done (fCons (fVar 4) fNil))) (fTv (vOp2 gLt (vVar 2) (vOpN gLen (vCons (vVar 0) vNil)))))
    (fRaise "NoText")
    fNext)))))
def b_read_words : Ev → RS :=
  (fSeq (fAsg (fLst fNil) (gN 1))
    (fSeq (fAsg (fK (.int 0)) (gN 2))
    (fSeq (fAsg (fK (.int 0)) (gN 3))
    (fSeq (fWhile fuel (fTv (vOp2 gLt (vVar 2) (vOpN gLen (vCons (vVar 0) vNil)))) l_read_words_2)
    (fSeq (fIf (fNot (fTv (vCall 1 m_is_done (vCons (vOp2 gIx (vVar 1) (vOp1 gNeg (vK (.int 1)))) vNil))))
    (fRaise "NoText")
    fNext)
    (fRet (fTup (fCons (fI (vOp2 gIx (vVar 1) (vOp1 gNeg (vK (.int 1))))) (fConsL 3 fNil)))))))))
def m_read_words : Fn := semOf (List.replicate 1 false) 5 b_read_words
def l_tuples_in_1 (rec : Fn) : Ev → RS :=
  (fSeq (fAsg (fCall 2 rec (fCons (fVar 0) (fCons (fVar 3) fNil))) (gN 4))
    (fSeq (fIf (fTv (vOp2 gIs' (vVar 4) (vK .non)))
    (fRet (fK .non))
    fNext)
    (fExtend 2 (fConsL 4 fNil))))
def b_tuples_in (rec : Fn) : Ev → RS :=
  (fSeq (fIf (fOr (fNot (fTv (vOpN gIsi (vCons (vVar 1) (vCons (vK (.gv (.ty "tuple"))) vNil))))) (fOr (fTv (vOp2 gLt (vOpN gLen (vCons (vVar 1) vNil)) (vK (.int 2)))) (fNot (fTv (vOpN gIsi (vCons (vOp2 gIx (vVar 1) (vK (.int 0))) (vCons (vK (.gv (.ty "str"))) vNil)))))))
    (fRet (fK .non))
    fNext)
    (fSeq (fIf (fTv (vOp1 (gInC ["row", "again"]) (vOp2 gIx (vVar 1) (vK (.int 0)))))
    (fSeq (fIf (fAnd (fTv (vOp2 gEq (vOpN gLen (vCons (vVar 1) vNil)) (vK (.int 2)))) (fAnd (fTb (fCall 2 m_is_row (fCons (fVar 0) (fCons (fI (vOp2 gIx (vVar 1) (vK (.int 1)))) fNil)))) (fTv (vOp2 gLe (vOpN gLen (vCons (vOp2 gIx (vVar 1) (vK (.int 1))) vNil)) (vK (.int 4))))))
    (fRet (fLst (fConsL 1 fNil)))
    fNext)
    (fRet (fK .non)))
    fNext)
    (fSeq (fIf (fTb (fOp2 gNin (fTup (fCons (fI (vOp2 gIx (vVar 1) (vK (.int 0)))) (fCons (fI (vOpN gLen (vCons (vVar 1) vNil))) fNil))) (fOp2 gAdd (fFz (fLc (fItC ["not"]) (gN 5) fYes (fTup (fCons (fVar 5) (fCons (fK (.int 2)) fNil))) [5])) (fFz (fLc (fItC ["either", "both", "then"]) (gN 5) fYes (fTup (fCons (fVar 5) (fCons (fK (.int 3)) fNil))) [5])))))
    (fRet (fK .non))
    fNext)
    (fSeq (fAsg (fLst (fCons (fVar 1) fNil)) (gN 2))
    (fSeq (fFor (fIt itemsT (fSl (fVar 1) (fO (fK (.int 1))) fO0)) (gN 3) (l_tuples_in_1 rec))
    (fRet (fMv 2)))))))
def r_tuples_in : Nat → Fn
  | 0 => semOf (List.replicate 2 false) 6 fun _ => .stk
  | n + 1 => semOf (List.replicate 2 false) 6 (b_tuples_in (r_tuples_in n))
def m_tuples_in : Fn := r_tuples_in 18
def b_is_set_of : Ev → RS :=
  (fSeq (fAsg (fCall 2 m_tuples_in (fCons (fVar 0) (fCons (fVar 1) fNil))) (gN 2))
    (fSeq (fIf (fOr (fTv (vOp2 gIs' (vVar 2) (vK .non))) (fTv (vOp2 gGt (vOpN gLen (vCons (vVar 2) vNil)) (vK (.int 12)))))
    (fRet (fK (.bl false)))
    fNext)
    (fRet (fOp2V gLe (fOpN gLen (fCons (fLc (fIt itemsL (fVar 2)) (gN 3) (fTv (vOp1 (gInC ["row", "again"]) (vOp2 gIx (vVar 3) (vK (.int 0))))) (fVar 3) [3]) fNil)) (vK (.int 5))))))
def m_is_set_of : Fn := semOf (List.replicate 2 false) 4 b_is_set_of
def b_is_set : Ev → RS :=
  (fSeq (fDrop (fCall 1 m_look_house (fCons (fVar 0) fNil)))
    (fRet (fCall 2 m_is_set_of (fCons (fVar 0) (fCons (fVar 1) fNil)))))
def m_is_set : Fn := semOf (List.replicate 2 false) 2 b_is_set
def b_read_set : Ev → RS :=
  (fSeq (fDrop (fCall 1 m_look_house (fCons (fVar 0) fNil)))
    (fSeq (fDrop (fCall 1 m_look_text (fCons (fVar 1) fNil)))
    (fSeq (fAsg (fCall 1 m_read_words (fCons (fMeth isStrD gSplit (fVar 1) (fCons (fK (.str " ")) fNil)) fNil)) (gT 2 (gsC (gN 2) (gsC (gN 3) gsN))))
    (fSeq (fIf (fOr (fTv (vOp2 gGt (vVar 3) (vK (.int 12)))) (fNot (fTb (fCall 2 m_is_set (fCons (fVar 0) (fCons (fVar 2) fNil))))))
    (fRaise "NoSet")
    fNext)
    (fRet (fMv 2))))))
def m_read_set : Fn := semOf (List.replicate 2 false) 4 b_read_set
def b_look_set : Ev → RS :=
  (fSeq (fDrop (fCall 1 m_look_house (fCons (fVar 0) fNil)))
    (fIf (fNot (fTb (fCall 2 m_is_set_of (fCons (fVar 0) (fCons (fVar 1) fNil)))))
    (fRaise "NoSet")
    fNext))
def m_look_set : Fn := semOf (List.replicate 2 false) 2 b_look_set
def b_show_row : Ev → RS :=
  (fSeq (fIf (fTv (vOp2 gEq (vVar 0) (vK (.str ""))))
    (fRet (fK (.str "-")))
    fNext)
    (fRet (fMv 0)))
def m_show_row : Fn := semOf (List.replicate 1 false) 1 b_show_row
def l_words_of_1 (rec : Fn) : Ev → RS :=
  (fExtend 1 (fCons (fCall 1 rec (fCons (fVar 2) fNil)) fNil))
def b_words_of (rec : Fn) : Ev → RS :=
  (fSeq (fIf (fTv (vOp2 gIn (vOp2 gIx (vVar 0) (vK (.int 0))) (vTup (vCons (vK (.str "row")) (vCons (vK (.str "again")) vNil)))))
    (fRet (fLst (fCons (fI (vOp2 gIx (vVar 0) (vK (.int 0)))) (fCons (fCall 1 m_show_row (fCons (fI (vOp2 gIx (vVar 0) (vK (.int 1)))) fNil)) fNil))))
    fNext)
    (fSeq (fAsg (fLst (fCons (fI (vOp2 gIx (vVar 0) (vK (.int 0)))) fNil)) (gN 1))
    (fSeq (fFor (fIt itemsT (fSl (fVar 0) (fO (fK (.int 1))) fO0)) (gN 2) (l_words_of_1 rec))
    (fRet (fMv 1)))))
def r_words_of : Nat → Fn
  | 0 => semOf (List.replicate 1 false) 3 fun _ => .stk
  | n + 1 => semOf (List.replicate 1 false) 3 (b_words_of (r_words_of n))
def m_words_of : Fn := r_words_of 13
def b_show_set : Ev → RS :=
  (fSeq (fDrop (fCall 1 m_look_house (fCons (fVar 0) fNil)))
    (fSeq (fDrop (fCall 2 m_look_set (fCons (fVar 0) (fCons (fVar 1) fNil))))
    (fRet (fJoin (fK (.str " ")) (fCall 1 m_words_of (fCons (fVar 1) fNil))))))
def m_show_set : Fn := semOf (List.replicate 2 false) 2 b_show_set
def l_law_1 : Ev → RS :=
  (fSeq (fAsg (fCall 1 m__law_bag (fCons (fOp2V gAdd (fCall 2 m__law_cell (fCons (fVar 0) (fCons (fVar 1) fNil))) (vVar 1)) fNil)) (gN 2))
    (fSeq (fAsg (fCallIO 2 1 m__law_house fNil) (gN 3))
    (fSeq (fAsg (fCall 1 m__law_house_copy (fCons (fVar 3) fNil)) (gN 4))
    (fSeq (fAsg (fCallIO 2 4 m__law_set (fCons (fVar 3) (fCons (fOp2 gAdd (fK (.int 1)) (fCallIO 2 2 m__law_take (fCons (fK (.int 5)) fNil))) (fCons (fOp2 gAdd (fK (.int 1)) (fCallIO 2 2 m__law_take (fCons (fK (.int 12)) fNil))) fNil)))) (gN 5))
    (fSeq (fAsg (fJoin (fK (.str " ")) (fCall 1 m__law_set_words (fCons (fVar 5) fNil))) (gN 6))
    (fSeq (fIf (fOr (fNot (fTb (fCall 2 m__law_same (fCons (fCall 2 m_show_set (fCons (fVar 4) (fCons (fVar 5) fNil))) (fCons (fVar 6) fNil))))) (fNot (fTb (fCall 2 m__law_same_set (fCons (fCall 2 m_read_set (fCons (fVar 4) (fCons (fVar 6) fNil))) (fCons (fVar 5) fNil))))))
    (fRet (fK (.bl false)))
    fNext)
    (fSeq (fAsg (fCall 2 m__law_deep (fCons (fTup (fCons (fK (.str "again")) (fCons (fI (vOp2 gMulX (vOp2 gIx (vOp2 gIx (vOp2 gIx (vVar 3) (vK (.int 1))) (vK (.int 0))) (vK (.int 0))) (vK (.int 4)))) fNil))) (fCons (fK (.int 11)) fNil))) (gN 7))
    (fSeq (fIf (fNot (fTb (fCall 2 m__law_same_set (fCons (fCall 2 m_read_set (fCons (fVar 4) (fCons (fCall 2 m_show_set (fCons (fVar 4) (fCons (fVar 7) fNil))) fNil))) (fCons (fVar 7) fNil)))))
    (fRet (fK (.bl false)))
    fNext)
    (fSeq (fAsg (fCallIO 2 3 m__law_no_set (fCons (fVar 3) (fCons (fVar 5) fNil))) (gN 8))
    (fSeq (fIf (fNot (fTb (fRef (fCall 2 m_show_set (fCons (fVar 4) (fCons (fVar 8) fNil))) "NoSet")))
    (fRet (fK (.bl false)))
    fNext)
    (fSeq (fAsg (fCallIO 2 2 m__law_no_house (fCons (fVar 3) fNil)) (gN 9))
    (fSeq (fIf (fNot (fTb (fRef (fCall 2 m_show_set (fCons (fVar 9) (fCons (fVar 8) fNil))) "NoHouse")))
    (fRet (fK (.bl false)))
    fNext)
    (fIf (fTv (vOp2 gNe (vVar 4) (vVar 3)))
    (fRet (fK (.bl false)))
    fNext)))))))))))))
def b_law : Ev → RS :=
  (fSeq (fFor (fItN rng1 (fCons (fI (vOpN gMax2 (vCons (vK (.int 3)) (vCons (vOpN gMin2 (vCons (vOpN gLen (vCons (vVar 0) vNil)) (vCons (vK (.int 10)) vNil))) vNil)))) fNil)) (gN 1) l_law_1)
    (fRet (fK (.bl true))))
def m_law : Fn := semOf (List.replicate 1 false) 10 b_law
abbrev s__law_word : Stmt := top 61
theorem sc__law_word : FnScope ["_law_e", "_law_named", "_law_words", "_law_some", "_law_k"] ["_law_e"] (defScope s__law_word) := ⟨rfl, rfl, rfl, by decide +kernel, rfl, by decide +kernel, by decide +kernel⟩
abbrev s__law_answer : Stmt := top 63
theorem sc__law_answer : FnScope ["_law_deed", "_law_e"] ["_law_deed"] (defScope s__law_answer) := ⟨rfl, rfl, rfl, by decide +kernel, rfl, by decide +kernel, by decide +kernel⟩
abbrev s__law_refuses : Stmt := top 64
theorem sc__law_refuses : FnScope ["_law_deed", "_law_word_here"] ["_law_deed", "_law_word_here"] (defScope s__law_refuses) := ⟨rfl, rfl, rfl, by decide +kernel, rfl, by decide +kernel, by decide +kernel⟩
structure Bi (K : PySem.W.Frag) (w : World) (mg : Str → Option Value) : Prop where
  ValueError : mg "ValueError" = none
  abs : mg "abs" = none
  all : mg "all" = none
  bool : mg "bool" = none
  int : mg "int" = none
  isinstance : mg "isinstance" = none
  len : mg "len" = none
  list : mg "list" = none
  max : mg "max" = none
  min : mg "min" = none
  range : mg "range" = none
  str : mg "str" = none
  sum : mg "sum" = none
  tuple : mg "tuple" = none
  zip : mg "zip" = none
  c_LETTERS_houses : ∃ t, mg "LETTERS_houses" = some (.str "abcdefghijklmnopqrstuvwxyz" t)
  c_FEWEST_HANDS : ∃ t, mg "FEWEST_HANDS" = some (.int 2 t)
  c_MOST_HANDS : ∃ t, mg "MOST_HANDS" = some (.int 4 t)
  c_MOST_LETTERS_houses : ∃ t, mg "MOST_LETTERS_houses" = some (.int 6 t)
  c_MOST_LETTERS_sets : ∃ t, mg "MOST_LETTERS_sets" = some (.int 4 t)
  c_MOST_ROWS : ∃ t, mg "MOST_ROWS" = some (.int 5 t)
  c_MOST_TUPLES_sets : ∃ t, mg "MOST_TUPLES_sets" = some (.int 12 t)
  c_WITH_ROW : ∃ a, mg "WITH_ROW" = some (.ref a) ∧ CTup K a ["row", "again"]
  c_WITH_ONE : ∃ a, mg "WITH_ONE" = some (.ref a) ∧ CTup K a ["not"]
  c_WITH_TWO : ∃ a, mg "WITH_TWO" = some (.ref a) ∧ CTup K a ["either", "both", "then"]
  c_LETTERS_texts : ∃ t, mg "LETTERS_texts" = some (.str "abcdefghijklmnopqrstuvwxyz" t)
  c_MOST_TUPLES_texts : ∃ t, mg "MOST_TUPLES_texts" = some (.int 12 t)
  c_PARTS : ∃ a, mg "PARTS" = some (.ref a) ∧ CDct K w a [("row", [(0 : Int), 1]), ("again", [(0 : Int), 1]), ("not", [(1 : Int), 0]), ("either", [(2 : Int), 0]), ("both", [(2 : Int), 0]), ("then", [(2 : Int), 0])]
section
variable [TabC]
variable {P : Program} {w : World} {K : PySem.W.Frag} {mg : Str → Option Value} {base : Heap} {CH x0 x1 x2 x3 x4 x5 x6 x7 x8 x9 x10 x11 x12 x13 x14 : Addr}
theorem ok__law_word {f : Addr} {fd : FuncData} (F : Fun K "_law_word" "_law_word" s__law_word f fd) (hm : mg "_law_word" = some (.ref f)) (B : Bi K w mg) (XT : ETx K mg CH [x0, x1, x2, x3, x4, x5, x6, x7, x8, x9, x10, x11, x12, x13, x14]) : CalH P w K mg base [x0, x1, x2, x3, x4, x5, x6, x7, x8, x9, x10, x11, x12, x13, x14] "_law_word" 2 := by
  refine ⟨f, fd, ["_law_e"], fnHp_word (k := 1) (n := 5) (g := b_word) F sc__law_word rfl rfl (fun cdv A outer s H E p i C hi hc hd hot hr => ?_) word_sem, hm, F.kp, F.binds fun _ _ _ _ _ _ us hl => match us, hl with | [_], _ => rfl⟩
  have hv : ∃ vs, p.2.data = .fields vs := let ⟨_, vs, e, _⟩ := hot; ⟨vs, e⟩
  have eC := XT.tab.ent C (List.mem_of_getElem? hi)
  have hp : p ∈ (L2H.cxH (L2N.CX P w) P w K mg base ["_law_e", "_law_named", "_law_words", "_law_some", "_law_k"] "_law_word" (defScope s__law_word) f cdv A outer s H E p).pn := List.mem_singleton.mpr rfl
  unfold b_word
  exact (dss_cons (ds_set (ps_set (i := 1) sc__law_word.nd rfl (by first | exact Or.inl rfl | exact Or.inr rfl) (de_lst (da_cons (de_ofV (dv_isE (a := p.1) (oe := p.2) XT.tab eC hp hc hd hv (XT.tab.kit (j := 0) hi rfl) (by rfl) B.isinstance (pv 0) (pe_glob (v := .ref x0) (by rfl) (XT.tab.g 0 _ _ rfl rfl) rfl) (fun _ r => r))) (da_cons (de_ofV (dv_isE (a := p.1) (oe := p.2) XT.tab eC hp hc hd hv (XT.tab.kit (j := 1) hi rfl) (by rfl) B.isinstance (pv 0) (pe_glob (v := .ref x1) (by rfl) (XT.tab.g 1 _ _ rfl rfl) rfl) (fun _ r => r))) (da_cons (de_ofV (dv_isE (a := p.1) (oe := p.2) XT.tab eC hp hc hd hv (XT.tab.kit (j := 2) hi rfl) (by rfl) B.isinstance (pv 0) (pe_glob (v := .ref x2) (by rfl) (XT.tab.g 2 _ _ rfl rfl) rfl) (fun _ r => r))) (da_cons (de_ofV (dv_isE (a := p.1) (oe := p.2) XT.tab eC hp hc hd hv (XT.tab.kit (j := 3) hi rfl) (by rfl) B.isinstance (pv 0) (pe_glob (v := .ref x3) (by rfl) (XT.tab.g 3 _ _ rfl rfl) rfl) (fun _ r => r))) da_nil)))))) (by decide))
      (dss_cons (ds_set (ps_set (i := 1) sc__law_word.nd rfl (by first | exact Or.inl rfl | exact Or.inr rfl) (de_opEV op_addU vAdd (de_var (pv 1)) (dv_lst (dav_cons (dv_isE (a := p.1) (oe := p.2) XT.tab eC hp hc hd hv (XT.tab.kit (j := 4) hi rfl) (by rfl) B.isinstance (pv 0) (pe_glob (v := .ref x4) (by rfl) (XT.tab.g 4 _ _ rfl rfl) rfl) (fun _ r => r)) (dav_cons (dv_isE (a := p.1) (oe := p.2) XT.tab eC hp hc hd hv (XT.tab.kit (j := 5) hi rfl) (by rfl) B.isinstance (pv 0) (pe_glob (v := .ref x5) (by rfl) (XT.tab.g 5 _ _ rfl rfl) rfl) (fun _ r => r)) (dav_cons (dv_isE (a := p.1) (oe := p.2) XT.tab eC hp hc hd hv (XT.tab.kit (j := 6) hi rfl) (by rfl) B.isinstance (pv 0) (pe_glob (v := .ref x6) (by rfl) (XT.tab.g 6 _ _ rfl rfl) rfl) (fun _ r => r)) (dav_cons (dv_isE (a := p.1) (oe := p.2) XT.tab eC hp hc hd hv (XT.tab.kit (j := 7) hi rfl) (by rfl) B.isinstance (pv 0) (pe_glob (v := .ref x7) (by rfl) (XT.tab.g 7 _ _ rfl rfl) rfl) (fun _ r => r)) dav_nil))))))) (by decide))
      (dss_cons (ds_set (ps_set (i := 1) sc__law_word.nd rfl (by first | exact Or.inl rfl | exact Or.inr rfl) (de_opEV op_addU vAdd (de_var (pv 1)) (dv_lst (dav_cons (dv_isE (a := p.1) (oe := p.2) XT.tab eC hp hc hd hv (XT.tab.kit (j := 8) hi rfl) (by rfl) B.isinstance (pv 0) (pe_glob (v := .ref x8) (by rfl) (XT.tab.g 8 _ _ rfl rfl) rfl) (fun _ r => r)) (dav_cons (dv_isE (a := p.1) (oe := p.2) XT.tab eC hp hc hd hv (XT.tab.kit (j := 9) hi rfl) (by rfl) B.isinstance (pv 0) (pe_glob (v := .ref x9) (by rfl) (XT.tab.g 9 _ _ rfl rfl) rfl) (fun _ r => r)) (dav_cons (dv_isE (a := p.1) (oe := p.2) XT.tab eC hp hc hd hv (XT.tab.kit (j := 10) hi rfl) (by rfl) B.isinstance (pv 0) (pe_glob (v := .ref x10) (by rfl) (XT.tab.g 10 _ _ rfl rfl) rfl) (fun _ r => r)) (dav_cons (dv_isE (a := p.1) (oe := p.2) XT.tab eC hp hc hd hv (XT.tab.kit (j := 11) hi rfl) (by rfl) B.isinstance (pv 0) (pe_glob (v := .ref x11) (by rfl) (XT.tab.g 11 _ _ rfl rfl) rfl) (fun _ r => r)) dav_nil))))))) (by decide))
      (dss_cons (ds_set (ps_set (i := 1) sc__law_word.nd rfl (by first | exact Or.inl rfl | exact Or.inr rfl) (de_opEV op_addU vAdd (de_var (pv 1)) (dv_lst (dav_cons (dv_isE (a := p.1) (oe := p.2) XT.tab eC hp hc hd hv (XT.tab.kit (j := 12) hi rfl) (by rfl) B.isinstance (pv 0) (pe_glob (v := .ref x12) (by rfl) (XT.tab.g 12 _ _ rfl rfl) rfl) (fun _ r => r)) (dav_cons (dv_isE (a := p.1) (oe := p.2) XT.tab eC hp hc hd hv (XT.tab.kit (j := 13) hi rfl) (by rfl) B.isinstance (pv 0) (pe_glob (v := .ref x13) (by rfl) (XT.tab.g 13 _ _ rfl rfl) rfl) (fun _ r => r)) (dav_cons (dv_isE (a := p.1) (oe := p.2) XT.tab eC hp hc hd hv (XT.tab.kit (j := 14) hi rfl) (by rfl) B.isinstance (pv 0) (pe_glob (v := .ref x14) (by rfl) (XT.tab.g 14 _ _ rfl rfl) rfl) (fun _ r => r)) dav_nil)))))) (by decide))
      (dss_cons (ds_set (ps_set (i := 2) sc__law_word.nd rfl (by first | exact Or.inl rfl | exact Or.inr rfl) (de_lst (da_cons (de_k pe_str fun _ _ => .str) (da_cons (de_k pe_str fun _ _ => .str) (da_cons (de_k pe_str fun _ _ => .str) (da_cons (de_k pe_str fun _ _ => .str) (da_cons (de_k pe_str fun _ _ => .str) (da_cons (de_k pe_str fun _ _ => .str) (da_cons (de_k pe_str fun _ _ => .str) (da_cons (de_k pe_str fun _ _ => .str) (da_cons (de_k pe_str fun _ _ => .str) (da_cons (de_k pe_str fun _ _ => .str) da_nil)))))))))))) (by decide))
      (dss_cons (ds_set (ps_set (i := 2) sc__law_word.nd rfl (by first | exact Or.inl rfl | exact Or.inr rfl) (de_opEV op_addU vAdd (de_var (pv 2)) (dv_lst (dav_cons (dv_k pe_str fun _ _ => .str) (dav_cons (dv_k pe_str fun _ _ => .str) (dav_cons (dv_k pe_str fun _ _ => .str) (dav_cons (dv_k pe_str fun _ _ => .str) (dav_cons (dv_k pe_str fun _ _ => .str) dav_nil)))))))) (by decide))
      (dss_cons (ds_setLcH (RX := RX0) (W := fun _ _ _ _ => False) (kpo := []) rfl (HotLc.ps_setLcH (q := p) (i := 3) (own := [("_law_k", 4)]) (g := tG _ [0, 1, 2, 3] _) hot hp sc__law_word.nd rfl rfl (sw_true rfl rfl rfl (by decide +kernel)) (dih_range1 (by rfl) B.range (da_cons (de_k pe_int fun _ _ => .int) da_nil)) (blkOk_by (own := [("_law_k", 4)]) (by kernel_rfl)) (fun _ _ _ _ _ => (dg_name (pg_name (i := 4) sc__law_word.nd rfl (by first | exact Or.inl rfl | exact Or.inr rfl)) (by decide))) (fun _ _ _ _ _ => (dts_one (dt_valV (dv_ixU (room1H hr) (dv_var (pv 1)) (dv_var (pv 4)) (fun _ _ => rfl))))) (fun _ _ _ _ _ => (de_ofV (dv_ixU (room1H hr) (dv_var (pv 2)) (dv_var (pv 4)) (fun _ _ => rfl))))) (by decide))
      (dss_cons (ds_if (PW.pt (dw_or (dt_cmpV (op_neU (room64H hr)) vNe (dv_callB (pe_callB call_lenU (by rfl) B.len boot_len (dav_cons (dv_var (pv 3)) dav_nil)) vLen) (dv_k pe_int fun _ _ => .int) (nomark _)) (dw_or1 (dt_not (dt_valV (dv_isE (a := p.1) (oe := p.2) XT.tab eC hp hc hd hv (XT.tab.kitV hi) (by rfl) B.isinstance (pv 0) (pe_bltn (v := .ty "ValueError") (by rfl) B.ValueError PyProof.Rows.Boot.ValueError rfl) (fun _ r => r))))))) (dss_one (ds_ret (de_k pe_str fun _ _ => .str))) dss_nil)
      (dss_one (ds_ret (de_ofV (dv_ixU (room1H hr) (dv_var (pv 3)) (dv_k pe_int fun _ _ => .int) (fun _ _ => rfl)))))))))))))
theorem ok__law_answer {f : Addr} {fd : FuncData} (F : Fun K "_law_answer" "_law_answer" s__law_answer f fd) (hm : mg "_law_answer" = some (.ref f)) (XT : ETx K mg CH [x0, x1, x2, x3, x4, x5, x6, x7, x8, x9, x10, x11, x12, x13, x14]) (C__law_word : CalH P w K mg base [x0, x1, x2, x3, x4, x5, x6, x7, x8, x9, x10, x11, x12, x13, x14] "_law_word" 2) : Ans P w K mg base [x0, x1, x2, x3, x4, x5, x6, x7, x8, x9, x10, x11, x12, x13, x14] "_law_answer" :=
  ans_mk F sc__law_answer hm rfl rfl rfl rfl (by kernel_rfl) (by kernel_rfl) (by kernel_rfl) (by kernel_rfl) XT.tab C__law_word (F.binds fun _ _ _ _ _ _ us hl => match us, hl with | [_], _ => rfl)
theorem ok__law_refuses {f : Addr} {fd : FuncData} (F : Fun K "_law_refuses" "_law_refuses" s__law_refuses f fd) (hm : mg "_law_refuses" = some (.ref f)) (C__law_answer : Ans P w K mg base [x0, x1, x2, x3, x4, x5, x6, x7, x8, x9, x10, x11, x12, x13, x14] "_law_answer") : Ref P w K mg base [x0, x1, x2, x3, x4, x5, x6, x7, x8, x9, x10, x11, x12, x13, x14] "_law_refuses" :=
  ref_mk F sc__law_refuses hm rfl rfl (by kernel_rfl) (by kernel_rfl) (by kernel_rfl) (by decide) C__law_answer (F.binds fun _ _ _ _ _ _ us hl => match us, hl with | [_, _], _ => rfl)
theorem ok__law_bag {f : Addr} {fd : FuncData} (F : Fun K "_law_bag" "_law_bag" s__law_bag f fd) (hm : mg "_law_bag" = some (.ref f)) (B : Bi K w mg) (XT : ETx K mg CH [x0, x1, x2, x3, x4, x5, x6, x7, x8, x9, x10, x11, x12, x13, x14]) (C__law_word : CalH P w K mg base [x0, x1, x2, x3, x4, x5, x6, x7, x8, x9, x10, x11, x12, x13, x14] "_law_word" 2)  : Cal P w K mg base (RXP [x0, x1, x2, x3, x4, x5, x6, x7, x8, x9, x10, x11, x12, x13, x14]) "_law_bag" 1 (List.replicate 1 false) m__law_bag := by
  refine ⟨f, fd, ["_law_cell_here"], fn_ok (k := 0) F sc__law_bag rfl rfl fun cdv A outer s H E hr => ?_, hm, F.kp, F.binds fun _ _ _ _ _ _ us hl => match us, hl with | [_], _ => rfl⟩
  unfold b__law_bag
  exact (dss_cons (ds_if (dt_cmpV op_geU vGe (dv_callB (pe_callB call_abs (by rfl) B.abs boot_abs (dav_cons (dv_var (pv 0)) dav_nil)) vAbs) (dv_op op_pow vPow (dv_k pe_int fun _ _ => .int) (dv_k pe_int fun _ _ => .int)) (nomark _))
      (dss_one (ds_ret (de_lst (da_cons (de_ofV (dv_callB (pe_callB call_abs (by rfl) B.abs boot_abs (dav_cons (dv_var (pv 0)) dav_nil)) vAbs)) (da_cons (de_k pe_int fun _ _ => .int) da_nil)))))
      dss_nil)
      (dss_one (ds_ret (de_lst (da_cons (de_ofV (dv_op op_modN vMod (dv_var (pv 0)) (dv_k pe_int fun _ _ => .int))) (da_cons (de_k pe_int fun _ _ => .int) da_nil))))))
theorem ok__law_take {f : Addr} {fd : FuncData} (F : Fun K "_law_take" "_law_take" s__law_take f fd) (hm : mg "_law_take" = some (.ref f)) (B : Bi K w mg) (XT : ETx K mg CH [x0, x1, x2, x3, x4, x5, x6, x7, x8, x9, x10, x11, x12, x13, x14]) (C__law_word : CalH P w K mg base [x0, x1, x2, x3, x4, x5, x6, x7, x8, x9, x10, x11, x12, x13, x14] "_law_word" 2)  : Cal P w K mg base (RXP [x0, x1, x2, x3, x4, x5, x6, x7, x8, x9, x10, x11, x12, x13, x14]) "_law_take" 1 (true :: List.replicate 1 false) m__law_take := by
  refine ⟨f, fd, ["_law_bag_here", "_law_many"], fn_ok (k := 0) F sc__law_take rfl rfl fun cdv A outer s H E hr => ?_, hm, F.kp, F.binds fun _ _ _ _ _ _ us hl => match us, hl with | [_, _], _ => rfl⟩
  unfold b__law_take
  exact (dss_cons (ds_if (dt_cmpV (op_eqU (room64 hr)) vEq (dv_ixU (room1 hr) (dv_var (pv 0)) (dv_k pe_int fun _ _ => .int) (fun _ _ => rfl)) (dv_k pe_int fun _ _ => .int) (nomark _))
      (dss_cons (ds_set (ps_set (i := 2) sc__law_take.nd rfl (by first | exact Or.inl rfl | exact Or.inr rfl) (de_ofV (dv_op op_modN vMod (dv_ixU (room1 hr) (dv_var (pv 0)) (dv_k pe_int fun _ _ => .int) (fun _ _ => rfl)) (dv_var (pv 1))))) (by decide))
      (dss_cons (ds_setL (ps_asg (de_ofV (dv_op op_fdivX vFdiv (dv_ixU (room1 hr) (dv_var (pv 0)) (dv_k pe_int fun _ _ => .int) (fun _ _ => rfl)) (dv_var (pv 1)))) (pg_sub (pv 0) (de_k pe_int fun _ _ => .int) set_list)))
      (dss_one (ds_ret (de_mv (pv 2))))))
      dss_nil)
      (dss_cons (ds_setL (ps_asg (de_ofV (dv_op op_modN vMod (dv_op op_addU vAdd (dv_op op_addU vAdd (dv_op op_mul vMul (dv_ixU (room1 hr) (dv_var (pv 0)) (dv_k pe_int fun _ _ => .int) (fun _ _ => rfl)) (dv_k pe_int fun _ _ => .int)) (dv_op op_mul vMul (dv_op op_mul vMul (dv_k pe_int fun _ _ => .int) (dv_ixU (room1 hr) (dv_var (pv 0)) (dv_k pe_int fun _ _ => .int) (fun _ _ => rfl))) (dv_ixU (room1 hr) (dv_var (pv 0)) (dv_k pe_int fun _ _ => .int) (fun _ _ => rfl)))) (dv_k pe_int fun _ _ => .int)) (dv_k pe_int fun _ _ => .int))) (pg_sub (pv 0) (de_k pe_int fun _ _ => .int) set_list)))
      (dss_cons (ds_setL (ps_asg (de_ofV (dv_op op_addU vAdd (dv_ixU (room1 hr) (dv_var (pv 0)) (dv_k pe_int fun _ _ => .int) (fun _ _ => rfl)) (dv_k pe_int fun _ _ => .int))) (pg_sub (pv 0) (de_k pe_int fun _ _ => .int) set_list)))
      (dss_one (ds_ret (de_ofV (dv_op op_modN vMod (dv_op op_fdivX vFdiv (dv_op op_modN vMod (dv_op op_mul vMul (dv_ixU (room1 hr) (dv_var (pv 0)) (dv_k pe_int fun _ _ => .int) (fun _ _ => rfl)) (dv_k pe_int fun _ _ => .int)) (dv_k pe_int fun _ _ => .int)) (dv_k pe_int fun _ _ => .int)) (dv_var (pv 1)))))))))
theorem ok__law_house {f : Addr} {fd : FuncData} (F : Fun K "_law_house" "_law_house" s__law_house f fd) (hm : mg "_law_house" = some (.ref f)) (B : Bi K w mg) (XT : ETx K mg CH [x0, x1, x2, x3, x4, x5, x6, x7, x8, x9, x10, x11, x12, x13, x14]) (C__law_word : CalH P w K mg base [x0, x1, x2, x3, x4, x5, x6, x7, x8, x9, x10, x11, x12, x13, x14] "_law_word" 2) (C__law_take : Cal P w K mg base (RXP [x0, x1, x2, x3, x4, x5, x6, x7, x8, x9, x10, x11, x12, x13, x14]) "_law_take" 1 (true :: List.replicate 1 false) m__law_take) : Cal P w K mg base (RXP [x0, x1, x2, x3, x4, x5, x6, x7, x8, x9, x10, x11, x12, x13, x14]) "_law_house" 2 (true :: List.replicate 0 false) m__law_house := by
  refine ⟨f, fd, ["_law_bag_here"], fn_ok (k := 1) F sc__law_house rfl rfl fun cdv A outer s H E hr => ?_, hm, F.kp, F.binds fun _ _ _ _ _ _ us hl => match us, hl with | [_], _ => rfl⟩
  unfold b__law_house
  exact (dss_cons (ds_set (ps_set (i := 1) sc__law_house.nd rfl (by first | exact Or.inl rfl | exact Or.inr rfl) (de_op op_addU vAdd (de_k pe_int fun _ _ => .int) (de_callIOC C__law_take hr (by decide) rfl (L2N.takes_of rfl rfl rfl rfl) (pv 0) (da_cons (de_k pe_int fun _ _ => .int) da_nil)))) (by decide))
      (dss_cons (ds_set (ps_set (i := 2) sc__law_house.nd rfl (by first | exact Or.inl rfl | exact Or.inr rfl) (de_op op_addU vAdd (de_k pe_int fun _ _ => .int) (de_callIOC C__law_take hr (by decide) rfl (L2N.takes_of rfl rfl rfl rfl) (pv 0) (da_cons (de_k pe_int fun _ _ => .int) da_nil)))) (by decide))
      (dss_cons (ds_set (ps_set (i := 3) sc__law_house.nd rfl (by first | exact Or.inl rfl | exact Or.inr rfl) (de_callIOC C__law_take hr (by decide) rfl (L2N.takes_of rfl rfl rfl rfl) (pv 0) (da_cons (de_k pe_int fun _ _ => .int) da_nil))) (by decide))
      (dss_cons (ds_set (ps_set (i := 4) sc__law_house.nd rfl (by first | exact Or.inl rfl | exact Or.inr rfl) (de_lst da_nil)) (by decide))
      (dss_cons (ds_set (ps_set (i := 5) sc__law_house.nd rfl (by first | exact Or.inl rfl | exact Or.inr rfl) (de_k pe_int fun _ _ => .int)) (by decide))
      (dss_cons (ds_for (passes_of rfl) rfl (di_range1 (by rfl) B.range (da_cons (de_var (pv 2)) da_nil)) (dg_name (pg_name (i := 6) sc__law_house.nd rfl (by first | exact Or.inl rfl | exact Or.inr rfl)) (by decide))
      (dss_cons (ds_set (ps_set (i := 5) sc__law_house.nd rfl (by first | exact Or.inl rfl | exact Or.inr rfl) (de_op op_addU vAdd (de_var (pv 5)) (de_callIOC C__law_take hr (by decide) rfl (L2N.takes_of rfl rfl rfl rfl) (pv 0) (da_cons (de_ofV (dv_op op_sub vSub (dv_op op_addU vAdd (dv_op op_sub vSub (dv_k pe_int fun _ _ => .int) (dv_var (pv 2))) (dv_var (pv 6))) (dv_var (pv 5)))) da_nil)))) (by decide))
      (dss_cons (ds_set (ps_set (i := 7) sc__law_house.nd rfl (by first | exact Or.inl rfl | exact Or.inr rfl) (de_op op_addU vAdd (de_k pe_int fun _ _ => .int) (de_callIOC C__law_take hr (by decide) rfl (L2N.takes_of rfl rfl rfl rfl) (pv 0) (da_cons (de_ofV (dv_op op_sub vSub (dv_op op_shl vShl (dv_k pe_int fun _ _ => .int) (dv_var (pv 1))) (dv_k pe_int fun _ _ => .int))) da_nil)))) (by decide))
      (dss_cons (ds_if (dt_cmpV (op_eqU (room64 hr)) vEq (dv_var (pv 3)) (dv_k pe_int fun _ _ => .int) (nomark _))
      (dss_one (ds_set (ps_set (i := 7) sc__law_house.nd rfl (by first | exact Or.inl rfl | exact Or.inr rfl) (de_op op_or vBor (de_op op_shl vShl (de_k pe_int fun _ _ => .int) (de_callIOC C__law_take hr (by decide) rfl (L2N.takes_of rfl rfl rfl rfl) (pv 0) (da_cons (de_var (pv 1)) da_nil))) (de_op op_shl vShl (de_k pe_int fun _ _ => .int) (de_callIOC C__law_take hr (by decide) rfl (L2N.takes_of rfl rfl rfl rfl) (pv 0) (da_cons (de_var (pv 1)) da_nil))))) (by decide)))
      dss_nil)
      (dss_cons (ds_append (ps_expr (pe_bm PySem.F.plainAttrs_list PySem.F.slot_list_append PySem.F.type_list_append mt_append (pv 4) (da_cons (de_tup (da_cons (de_ofV (dv_ixU (room1 hr) (dv_k pe_str fun _ _ => .str) (dv_var (pv 5)) (fun _ _ => rfl))) (da_cons (de_lc rfl (pe_lc (own := [("_law_hand", 8)]) (g := tG _ [0, 1, 2, 3, 4, 5, 6, 7] _) rfl sc__law_house.nd (di_range1 (by rfl) B.range (da_cons (de_var (pv 1)) da_nil)) (blkOk_by (own := [("_law_hand", 8)]) (by kernel_rfl)) (fun _ _ _ _ _ => (dg_name (pg_name (i := 8) sc__law_house.nd rfl (by first | exact Or.inl rfl | exact Or.inr rfl)) (by decide))) (fun _ _ _ _ _ => (dts_one (dt_cmpV (op_eqU (room64 hr)) vEq (dv_op op_and vBand (dv_op op_shr vShr (dv_var (pv 7)) (dv_var (pv 8))) (dv_k pe_int fun _ _ => .int)) (dv_k pe_int fun _ _ => .int) (nomark _)))) (fun _ _ _ _ _ => (de_var (pv 8))))) da_nil))) da_nil))))
      (dss_one (ds_set (ps_set (i := 5) sc__law_house.nd rfl (by first | exact Or.inl rfl | exact Or.inr rfl) (de_ofV (dv_op op_addU vAdd (dv_var (pv 5)) (dv_k pe_int fun _ _ => .int)))) (by decide))))))))
      (dss_one (ds_ret (de_tup (da_consL (pv 1) (da_consL (pv 4) da_nil)))))))))))
theorem ok__law_house_copy {f : Addr} {fd : FuncData} (F : Fun K "_law_house_copy" "_law_house_copy" s__law_house_copy f fd) (hm : mg "_law_house_copy" = some (.ref f)) (B : Bi K w mg) (XT : ETx K mg CH [x0, x1, x2, x3, x4, x5, x6, x7, x8, x9, x10, x11, x12, x13, x14]) (C__law_word : CalH P w K mg base [x0, x1, x2, x3, x4, x5, x6, x7, x8, x9, x10, x11, x12, x13, x14] "_law_word" 2)  : Cal P w K mg base (RXP [x0, x1, x2, x3, x4, x5, x6, x7, x8, x9, x10, x11, x12, x13, x14]) "_law_house_copy" 1 (List.replicate 1 false) m__law_house_copy := by
  refine ⟨f, fd, ["_law_house_here"], fn_ok (k := 0) F sc__law_house_copy rfl rfl fun cdv A outer s H E hr => ?_, hm, F.kp, F.binds fun _ _ _ _ _ _ us hl => match us, hl with | [_], _ => rfl⟩
  unfold b__law_house_copy
  exact (dss_one (ds_ret (de_tup (da_cons (de_ofV (dv_ixU (room1 hr) (dv_var (pv 0)) (dv_k pe_int fun _ _ => .int) (fun _ _ => rfl))) (da_cons (de_lc rfl (pe_lc (own := [("_law_letter", 1), ("_law_owned", 2)]) (g := tG _ [0] _) rfl sc__law_house_copy.nd (di_list (de_ofV (dv_ixU (room1 hr) (dv_var (pv 0)) (dv_k pe_int fun _ _ => .int) (fun _ _ => rfl)))) (blkOk_by (own := [("_law_letter", 1), ("_law_owned", 2)]) (by kernel_rfl)) (fun _ _ _ _ _ => (dg_tup rfl (dgs_cons (dg_name (pg_name (i := 1) sc__law_house_copy.nd rfl (by first | exact Or.inl rfl | exact Or.inr rfl)) (by decide)) (dgs_cons (dg_name (pg_name (i := 2) sc__law_house_copy.nd rfl (by first | exact Or.inl rfl | exact Or.inr rfl)) (by decide)) dgs_nil)))) (fun _ _ _ _ _ => dts_0) (fun _ _ _ _ _ => (de_tup (da_cons (de_var (pv 1)) (da_cons (de_callB (pe_callTy call_list_of (by rfl) B.list boot_list (da_cons (de_var (pv 2)) da_nil)) vList) da_nil)))))) da_nil)))))
theorem ok__law_set_rec {f : Addr} {fd : FuncData} (F : Fun K "_law_set" "_law_set" s__law_set f fd) (hm : mg "_law_set" = some (.ref f)) (B : Bi K w mg) (XT : ETx K mg CH [x0, x1, x2, x3, x4, x5, x6, x7, x8, x9, x10, x11, x12, x13, x14]) (C__law_word : CalH P w K mg base [x0, x1, x2, x3, x4, x5, x6, x7, x8, x9, x10, x11, x12, x13, x14] "_law_word" 2) (C__law_take : Cal P w K mg base (RXP [x0, x1, x2, x3, x4, x5, x6, x7, x8, x9, x10, x11, x12, x13, x14]) "_law_take" 1 (true :: List.replicate 1 false) m__law_take) : ∀ n, Cal P w K mg base (RXP [x0, x1, x2, x3, x4, x5, x6, x7, x8, x9, x10, x11, x12, x13, x14]) "_law_set" (2 + n) (true :: List.replicate 3 false) (r__law_set n) := by
  intro n
  induction n with
  | zero => exact ⟨f, fd, ["_law_bag_here", "_law_house_here", "_law_rows", "_law_tuples"], fn_ok (k := 1) F sc__law_set rfl rfl fun cdv A outer s H E hr => dss_stk, hm, F.kp, F.binds fun _ _ _ _ _ _ us hl => match us, hl with | [_, _, _, _], _ => rfl⟩
  | succ n C_rec =>
    refine ⟨f, fd, ["_law_bag_here", "_law_house_here", "_law_rows", "_law_tuples"], fn_ok (k := 2 + n) F sc__law_set rfl rfl fun cdv A outer s H E hr => ?_, hm, F.kp, F.binds fun _ _ _ _ _ _ us hl => match us, hl with | [_, _, _, _], _ => rfl⟩
    unfold b__law_set
    exact (dss_cons (ds_set (ps_set (i := 4) sc__law_set.nd rfl (by first | exact Or.inl rfl | exact Or.inr rfl) (de_callIOC C__law_take hr (by omega) rfl (L2N.takes_of rfl rfl rfl rfl) (pv 0) (da_cons (de_k pe_int fun _ _ => .int) da_nil))) (by decide))
      (dss_cons (ds_if (PW.pt (dw_and (dt_cmpV (op_eqU (room64 hr)) vEq (dv_var (pv 4)) (dv_k pe_int fun _ _ => .int) (nomark _)) (dw_and1 (dt_cmpV op_gtU vGt (dv_var (pv 3)) (dv_k pe_int fun _ _ => .int) (nomark _)))))
      (dss_one (ds_ret (de_tup (da_cons (de_k pe_str fun _ _ => .str) (da_cons (de_callIOC C_rec hr (Nat.le_refl _) rfl (L2N.takes_of rfl rfl rfl rfl) (pv 0) (da_cons (de_var (pv 1)) (da_cons (de_var (pv 2)) (da_cons (de_ofV (dv_op op_sub vSub (dv_var (pv 3)) (dv_k pe_int fun _ _ => .int))) da_nil)))) da_nil)))))
      dss_nil)
      (dss_cons (ds_if (PW.pt (dw_or (dt_cmpV op_ltU vLt (dv_var (pv 4)) (dv_k pe_int fun _ _ => .int) (nomark _)) (dw_or (dt_cmpV op_ltU vLt (dv_var (pv 2)) (dv_k pe_int fun _ _ => .int) (nomark _)) (dw_or1 (dt_cmpV op_ltU vLt (dv_var (pv 3)) (dv_k pe_int fun _ _ => .int) (nomark _))))))
      (dss_cons (ds_set (ps_set (i := 5) sc__law_set.nd rfl (by first | exact Or.inl rfl | exact Or.inr rfl) (de_join (pe_join (de_k pe_str fun _ _ => .str) (de_lc rfl (pe_lc (own := [("_law_k", 10)]) (g := tG _ [0, 1, 2, 3, 4, 5, 6, 7, 8, 9] _) rfl sc__law_set.nd (di_range1 (by rfl) B.range (da_cons (de_callIOC C__law_take hr (by omega) rfl (L2N.takes_of rfl rfl rfl rfl) (pv 0) (da_cons (de_k pe_int fun _ _ => .int) da_nil)) da_nil)) (blkOk_by (own := [("_law_k", 10)]) (by kernel_rfl)) (fun _ _ _ _ _ => (dg_name (pg_name (i := 10) sc__law_set.nd rfl (by first | exact Or.inl rfl | exact Or.inr rfl)) (by decide))) (fun _ _ _ _ _ => dts_0) (fun _ _ _ _ _ => (de_ixU (room1 hr) (de_ixU (room1 hr) (de_ofV (dv_ixU (room1 hr) (dv_var (pv 1)) (dv_k pe_int fun _ _ => .int) (fun _ _ => rfl))) (de_callIOC C__law_take hr (by omega) rfl takesN0 (pv 0) (da_cons (de_ofV (dv_callB (pe_callB call_lenU (by rfl) B.len boot_len (dav_cons (dv_ixU (room1 hr) (dv_var (pv 1)) (dv_k pe_int fun _ _ => .int) (fun _ _ => rfl)) dav_nil)) vLen)) da_nil)) (fun _ _ => rfl)) (de_k pe_int fun _ _ => .int) (fun _ _ => rfl)))))))) (by decide))
      (dss_one (ds_ret (de_tup (da_cons (de_ofV (dv_ixU (room1 hr) (dv_lst (dav_cons (dv_k pe_str fun _ _ => .str) (dav_cons (dv_k pe_str fun _ _ => .str) dav_nil))) (dv_op op_modN vMod (dv_var (pv 4)) (dv_k pe_int fun _ _ => .int)) (fun _ _ => rfl))) (da_consL (pv 5) da_nil))))))
      dss_nil)
      (dss_cons (ds_set (ps_set (i := 6) sc__law_set.nd rfl (by first | exact Or.inl rfl | exact Or.inr rfl) (de_op op_addU vAdd (de_k pe_int fun _ _ => .int) (de_callIOC C__law_take hr (by omega) rfl (L2N.takes_of rfl rfl rfl rfl) (pv 0) (da_cons (de_ofV (dv_op op_sub vSub (dv_var (pv 2)) (dv_k pe_int fun _ _ => .int))) da_nil)))) (by decide))
      (dss_cons (ds_set (ps_set (i := 7) sc__law_set.nd rfl (by first | exact Or.inl rfl | exact Or.inr rfl) (de_op op_addU vAdd (de_k pe_int fun _ _ => .int) (de_callIOC C__law_take hr (by omega) rfl (L2N.takes_of rfl rfl rfl rfl) (pv 0) (da_cons (de_ofV (dv_op op_sub vSub (dv_var (pv 3)) (dv_k pe_int fun _ _ => .int))) da_nil)))) (by decide))
      (dss_cons (ds_set (ps_set (i := 8) sc__law_set.nd rfl (by first | exact Or.inl rfl | exact Or.inr rfl) (de_callIOC C_rec hr (Nat.le_refl _) rfl (L2N.takes_of rfl rfl rfl rfl) (pv 0) (da_cons (de_var (pv 1)) (da_cons (de_var (pv 6)) (da_cons (de_var (pv 7)) da_nil))))) (by decide))
      (dss_cons (ds_set (ps_set (i := 9) sc__law_set.nd rfl (by first | exact Or.inl rfl | exact Or.inr rfl) (de_ofV (dv_ixU (room1 hr) (dv_lst (dav_cons (dv_k pe_str fun _ _ => .str) (dav_cons (dv_k pe_str fun _ _ => .str) (dav_cons (dv_k pe_str fun _ _ => .str) dav_nil)))) (dv_op op_modN vMod (dv_var (pv 4)) (dv_k pe_int fun _ _ => .int)) (fun _ _ => rfl)))) (by decide))
      (dss_one (ds_ret (de_tup (da_consL (pv 9) (da_consL (pv 8) (da_cons (de_callIOC C_rec hr (Nat.le_refl _) rfl (L2N.takes_of rfl rfl rfl rfl) (pv 0) (da_cons (de_var (pv 1)) (da_cons (de_ofV (dv_op op_sub vSub (dv_var (pv 2)) (dv_var (pv 6)))) (da_cons (de_ofV (dv_op op_sub vSub (dv_op op_sub vSub (dv_var (pv 3)) (dv_k pe_int fun _ _ => .int)) (dv_var (pv 7)))) da_nil)))) da_nil)))))))))))))
theorem ok__law_set {f : Addr} {fd : FuncData} (F : Fun K "_law_set" "_law_set" s__law_set f fd) (hm : mg "_law_set" = some (.ref f)) (B : Bi K w mg) (XT : ETx K mg CH [x0, x1, x2, x3, x4, x5, x6, x7, x8, x9, x10, x11, x12, x13, x14]) (C__law_word : CalH P w K mg base [x0, x1, x2, x3, x4, x5, x6, x7, x8, x9, x10, x11, x12, x13, x14] "_law_word" 2) (C__law_take : Cal P w K mg base (RXP [x0, x1, x2, x3, x4, x5, x6, x7, x8, x9, x10, x11, x12, x13, x14]) "_law_take" 1 (true :: List.replicate 1 false) m__law_take) : Cal P w K mg base (RXP [x0, x1, x2, x3, x4, x5, x6, x7, x8, x9, x10, x11, x12, x13, x14]) "_law_set" 15 (true :: List.replicate 3 false) m__law_set := ok__law_set_rec F hm B XT C__law_word C__law_take 13
theorem ok__law_deep {f : Addr} {fd : FuncData} (F : Fun K "_law_deep" "_law_deep" s__law_deep f fd) (hm : mg "_law_deep" = some (.ref f)) (B : Bi K w mg) (XT : ETx K mg CH [x0, x1, x2, x3, x4, x5, x6, x7, x8, x9, x10, x11, x12, x13, x14]) (C__law_word : CalH P w K mg base [x0, x1, x2, x3, x4, x5, x6, x7, x8, x9, x10, x11, x12, x13, x14] "_law_word" 2)  : Cal P w K mg base (RXP [x0, x1, x2, x3, x4, x5, x6, x7, x8, x9, x10, x11, x12, x13, x14]) "_law_deep" 1 (List.replicate 2 false) m__law_deep := by
  refine ⟨f, fd, ["_law_one", "_law_many"], fn_ok (k := 0) F sc__law_deep rfl rfl fun cdv A outer s H E hr => ?_, hm, F.kp, F.binds fun _ _ _ _ _ _ us hl => match us, hl with | [_, _], _ => rfl⟩
  unfold b__law_deep
  exact (dss_cons (ds_for (passes_of rfl) rfl (di_range1 (by rfl) B.range (da_cons (de_var (pv 1)) da_nil)) (dg_name (pg_name (i := 2) sc__law_deep.nd rfl (by first | exact Or.inl rfl | exact Or.inr rfl)) (by decide))
      (dss_one (ds_set (ps_set (i := 0) sc__law_deep.nd rfl (by first | exact Or.inl rfl | exact Or.inr rfl) (de_tup (da_cons (de_k pe_str fun _ _ => .str) (da_cons (de_var (pv 0)) da_nil)))) (by decide))))
      (dss_one (ds_ret (de_mv (pv 0)))))
theorem ok__law_thirteen {f : Addr} {fd : FuncData} (F : Fun K "_law_thirteen" "_law_thirteen" s__law_thirteen f fd) (hm : mg "_law_thirteen" = some (.ref f)) (B : Bi K w mg) (XT : ETx K mg CH [x0, x1, x2, x3, x4, x5, x6, x7, x8, x9, x10, x11, x12, x13, x14]) (C__law_word : CalH P w K mg base [x0, x1, x2, x3, x4, x5, x6, x7, x8, x9, x10, x11, x12, x13, x14] "_law_word" 2) (C__law_deep : Cal P w K mg base (RXP [x0, x1, x2, x3, x4, x5, x6, x7, x8, x9, x10, x11, x12, x13, x14]) "_law_deep" 1 (List.replicate 2 false) m__law_deep) : Cal P w K mg base (RXP [x0, x1, x2, x3, x4, x5, x6, x7, x8, x9, x10, x11, x12, x13, x14]) "_law_thirteen" 2 (List.replicate 1 false) m__law_thirteen := by
  refine ⟨f, fd, ["_law_letter"], fn_ok (k := 1) F sc__law_thirteen rfl rfl fun cdv A outer s H E hr => ?_, hm, F.kp, F.binds fun _ _ _ _ _ _ us hl => match us, hl with | [_], _ => rfl⟩
  unfold b__law_thirteen
  exact (dss_cons (ds_set (ps_set (i := 1) sc__law_thirteen.nd rfl (by first | exact Or.inl rfl | exact Or.inr rfl) (de_tup (da_cons (de_k pe_str fun _ _ => .str) (da_cons (de_tup (da_cons (de_k pe_str fun _ _ => .str) (da_cons (de_var (pv 0)) da_nil))) da_nil)))) (by decide))
      (dss_one (ds_ret (de_callC C__law_deep hr (by decide) rfl (L2N.takes_of rfl rfl rfl rfl) (da_cons (de_tup (da_cons (de_k pe_str fun _ _ => .str) (da_cons (de_tup (da_cons (de_k pe_str fun _ _ => .str) (da_cons (de_var (pv 1)) (da_cons (de_var (pv 1)) da_nil)))) (da_cons (de_tup (da_cons (de_k pe_str fun _ _ => .str) (da_cons (de_var (pv 1)) (da_cons (de_var (pv 1)) da_nil)))) da_nil)))) (da_cons (de_k pe_int fun _ _ => .int) da_nil))))))
theorem ok__law_no_set {f : Addr} {fd : FuncData} (F : Fun K "_law_no_set" "_law_no_set" s__law_no_set f fd) (hm : mg "_law_no_set" = some (.ref f)) (B : Bi K w mg) (XT : ETx K mg CH [x0, x1, x2, x3, x4, x5, x6, x7, x8, x9, x10, x11, x12, x13, x14]) (C__law_word : CalH P w K mg base [x0, x1, x2, x3, x4, x5, x6, x7, x8, x9, x10, x11, x12, x13, x14] "_law_word" 2) (C__law_thirteen : Cal P w K mg base (RXP [x0, x1, x2, x3, x4, x5, x6, x7, x8, x9, x10, x11, x12, x13, x14]) "_law_thirteen" 2 (List.replicate 1 false) m__law_thirteen) (C__law_take : Cal P w K mg base (RXP [x0, x1, x2, x3, x4, x5, x6, x7, x8, x9, x10, x11, x12, x13, x14]) "_law_take" 1 (true :: List.replicate 1 false) m__law_take) : Cal P w K mg base (RXP [x0, x1, x2, x3, x4, x5, x6, x7, x8, x9, x10, x11, x12, x13, x14]) "_law_no_set" 3 (true :: List.replicate 2 false) m__law_no_set := by
  refine ⟨f, fd, ["_law_bag_here", "_law_house_here", "_law_one"], fn_ok (k := 2) F sc__law_no_set rfl rfl fun cdv A outer s H E hr => ?_, hm, F.kp, F.binds fun _ _ _ _ _ _ us hl => match us, hl with | [_, _, _], _ => rfl⟩
  unfold b__law_no_set
  exact (dss_cons (ds_set (ps_set (i := 3) sc__law_no_set.nd rfl (by first | exact Or.inl rfl | exact Or.inr rfl) (de_ixU (room1 hr) (de_ixU (room1 hr) (de_ofV (dv_ixU (room1 hr) (dv_var (pv 1)) (dv_k pe_int fun _ _ => .int) (fun _ _ => rfl))) (de_callIOC C__law_take hr (by decide) rfl (L2N.takes_of rfl rfl rfl rfl) (pv 0) (da_cons (de_ofV (dv_callB (pe_callB call_lenU (by rfl) B.len boot_len (dav_cons (dv_ixU (room1 hr) (dv_var (pv 1)) (dv_k pe_int fun _ _ => .int) (fun _ _ => rfl)) dav_nil)) vLen)) da_nil)) (fun _ _ => rfl)) (de_k pe_int fun _ _ => .int) (fun _ _ => rfl))) (by decide))
      (dss_cons (ds_set (ps_set (i := 4) sc__law_no_set.nd rfl (by first | exact Or.inl rfl | exact Or.inr rfl) (de_callIOC C__law_take hr (by decide) rfl (L2N.takes_of rfl rfl rfl rfl) (pv 0) (da_cons (de_k pe_int fun _ _ => .int) da_nil))) (by decide))
      (dss_cons (ds_set (ps_set (i := 5) sc__law_no_set.nd rfl (by first | exact Or.inl rfl | exact Or.inr rfl) (de_ixU (room1 hr) (de_fz (de_lst (da_cons (de_k pe_non fun _ _ => .non) (da_cons (de_k pe_bl fun _ _ => .bl) (da_cons (de_k pe_int fun _ _ => .int) (da_cons (de_k pe_str fun _ _ => .str) (da_cons (de_k pe_str fun _ _ => .str) (da_cons (de_lst da_nil) (da_cons (de_tup da_nil) (da_cons (de_lst (da_cons (de_k pe_str fun _ _ => .str) (da_cons (de_var (pv 3)) da_nil))) (da_cons (de_tup (da_cons (de_var (pv 3)) da_nil)) (da_cons (de_ofV (dv_op op_pow vPow (dv_k pe_int fun _ _ => .int) (dv_k pe_int fun _ _ => .int))) da_nil)))))))))))) (de_callIOC C__law_take hr (by decide) rfl (L2N.takes_of rfl rfl rfl rfl) (pv 0) (da_cons (de_k pe_int fun _ _ => .int) da_nil)) (fun _ _ => rfl))) (by decide))
      (dss_cons (ds_set (ps_set (i := 6) sc__law_no_set.nd rfl (by first | exact Or.inl rfl | exact Or.inr rfl) (de_ixU (room1 hr) (de_fz (de_lst (da_cons (de_k pe_non fun _ _ => .non) (da_cons (de_k pe_int fun _ _ => .int) (da_cons (de_ofV (dv_op op_mulTI vMulX (dv_var (pv 3)) (dv_k pe_int fun _ _ => .int))) (da_cons (de_upper (de_var (pv 3))) (da_cons (de_tup (da_cons (de_var (pv 3)) da_nil)) (da_cons (de_lst (da_cons (de_var (pv 3)) da_nil)) (da_cons (de_k pe_str fun _ _ => .str) (da_cons (de_ofV (dv_op op_addU vAdd (dv_var (pv 3)) (dv_k pe_str fun _ _ => .str))) da_nil)))))))))) (de_callIOC C__law_take hr (by decide) rfl (L2N.takes_of rfl rfl rfl rfl) (pv 0) (da_cons (de_k pe_int fun _ _ => .int) da_nil)) (fun _ _ => rfl))) (by decide))
      (dss_cons (ds_set (ps_set (i := 7) sc__law_no_set.nd rfl (by first | exact Or.inl rfl | exact Or.inr rfl) (de_tup (da_cons (de_k pe_str fun _ _ => .str) (da_cons (de_var (pv 3)) da_nil)))) (by decide))
      (dss_cons (ds_for (passes_of rfl) rfl (di_range1 (by rfl) B.range (da_cons (de_k pe_int fun _ _ => .int) da_nil)) (dg_name (pg_name (i := 8) sc__law_no_set.nd rfl (by first | exact Or.inl rfl | exact Or.inr rfl)) (by decide))
      (dss_one (ds_set (ps_set (i := 7) sc__law_no_set.nd rfl (by first | exact Or.inl rfl | exact Or.inr rfl) (de_tup (da_cons (de_k pe_str fun _ _ => .str) (da_cons (de_var (pv 7)) (da_cons (de_tup (da_cons (de_k pe_str fun _ _ => .str) (da_cons (de_var (pv 3)) da_nil))) da_nil))))) (by decide))))
      (dss_cons (ds_set (ps_set (i := 9) sc__law_no_set.nd rfl (by first | exact Or.inl rfl | exact Or.inr rfl) (de_lst (da_cons (de_var (pv 5)) (da_cons (de_tup (da_cons (de_k pe_str fun _ _ => .str) da_nil)) (da_cons (de_tup (da_cons (de_k pe_str fun _ _ => .str) (da_cons (de_var (pv 6)) da_nil))) (da_cons (de_tup (da_cons (de_k pe_str fun _ _ => .str) (da_cons (de_var (pv 6)) da_nil))) (da_cons (de_tup (da_cons (de_k pe_str fun _ _ => .str) (da_cons (de_var (pv 3)) (da_cons (de_var (pv 3)) da_nil)))) (da_cons (de_tup (da_cons (de_k pe_str fun _ _ => .str) da_nil)) (da_cons (de_tup (da_cons (de_k pe_str fun _ _ => .str) (da_cons (de_var (pv 5)) da_nil))) da_nil))))))))) (by decide))
      (dss_cons (ds_set (ps_set (i := 9) sc__law_no_set.nd rfl (by first | exact Or.inl rfl | exact Or.inr rfl) (de_op op_addU vAdd (de_var (pv 9)) (de_fz (de_lst (da_cons (de_tup (da_cons (de_k pe_str fun _ _ => .str) (da_cons (de_var (pv 2)) (da_cons (de_var (pv 2)) da_nil)))) (da_cons (de_tup (da_cons (de_k pe_str fun _ _ => .str) (da_cons (de_var (pv 2)) da_nil))) (da_cons (de_tup (da_cons (de_k pe_str fun _ _ => .str) (da_cons (de_var (pv 2)) (da_cons (de_var (pv 5)) da_nil)))) (da_cons (de_var (pv 7)) (da_cons (de_callC C__law_thirteen hr (by decide) rfl (L2N.takes_of rfl rfl rfl rfl) (da_cons (de_var (pv 3)) da_nil)) da_nil))))))))) (by decide))
      (dss_one (ds_ret (de_ixU (room1 hr) (de_var (pv 9)) (de_var (pv 4)) (fun _ _ => rfl))))))))))))
theorem ok__law_no_house {f : Addr} {fd : FuncData} (F : Fun K "_law_no_house" "_law_no_house" s__law_no_house f fd) (hm : mg "_law_no_house" = some (.ref f)) (B : Bi K w mg) (XT : ETx K mg CH [x0, x1, x2, x3, x4, x5, x6, x7, x8, x9, x10, x11, x12, x13, x14]) (C__law_word : CalH P w K mg base [x0, x1, x2, x3, x4, x5, x6, x7, x8, x9, x10, x11, x12, x13, x14] "_law_word" 2) (C__law_take : Cal P w K mg base (RXP [x0, x1, x2, x3, x4, x5, x6, x7, x8, x9, x10, x11, x12, x13, x14]) "_law_take" 1 (true :: List.replicate 1 false) m__law_take) : Cal P w K mg base (RXP [x0, x1, x2, x3, x4, x5, x6, x7, x8, x9, x10, x11, x12, x13, x14]) "_law_no_house" 2 (true :: List.replicate 1 false) m__law_no_house := by
  refine ⟨f, fd, ["_law_bag_here", "_law_house_here"], fn_ok (k := 1) F sc__law_no_house rfl rfl fun cdv A outer s H E hr => ?_, hm, F.kp, F.binds fun _ _ _ _ _ _ us hl => match us, hl with | [_, _], _ => rfl⟩
  unfold b__law_no_house
  exact (dss_cons (ds_asg (ps_asg (de_var (pv 1)) (dg_tup rfl (dgs_cons (dg_name (pg_name (i := 2) sc__law_no_house.nd rfl (by first | exact Or.inl rfl | exact Or.inr rfl)) (by decide)) (dgs_cons (dg_name (pg_name (i := 3) sc__law_no_house.nd rfl (by first | exact Or.inl rfl | exact Or.inr rfl)) (by decide)) dgs_nil)))))
      (dss_cons (ds_set (ps_set (i := 4) sc__law_no_house.nd rfl (by first | exact Or.inl rfl | exact Or.inr rfl) (de_ixU (room1 hr) (de_fz (de_lst (da_cons (de_k pe_non fun _ _ => .non) (da_cons (de_k pe_bl fun _ _ => .bl) (da_cons (de_k pe_int fun _ _ => .int) (da_cons (de_k pe_str fun _ _ => .str) (da_cons (de_lst da_nil) (da_cons (de_tup da_nil) (da_cons (de_ofV (dv_op op_pow vPow (dv_k pe_int fun _ _ => .int) (dv_k pe_int fun _ _ => .int))) (da_cons (de_ofV (dv_un un_neg vNeg (dv_k pe_int fun _ _ => .int))) (da_cons (de_k pe_str fun _ _ => .str) (da_cons (de_lst (da_cons (de_k pe_int fun _ _ => .int) da_nil)) (da_cons (de_tup (da_cons (de_k pe_int fun _ _ => .int) da_nil)) da_nil))))))))))))) (de_callIOC C__law_take hr (by decide) rfl (L2N.takes_of rfl rfl rfl rfl) (pv 0) (da_cons (de_k pe_int fun _ _ => .int) da_nil)) (fun _ _ => rfl))) (by decide))
      (dss_cons (ds_set (ps_set (i := 5) sc__law_no_house.nd rfl (by first | exact Or.inl rfl | exact Or.inr rfl) (de_callIOC C__law_take hr (by decide) rfl (L2N.takes_of rfl rfl rfl rfl) (pv 0) (da_cons (de_k pe_int fun _ _ => .int) da_nil))) (by decide))
      (dss_cons (ds_set (ps_set (i := 6) sc__law_no_house.nd rfl (by first | exact Or.inl rfl | exact Or.inr rfl) (de_callIOC C__law_take hr (by decide) rfl (L2N.takes_of rfl rfl rfl rfl) (pv 0) (da_cons (de_ofV (dv_callB (pe_callB call_lenU (by rfl) B.len boot_len (dav_cons (dv_var (pv 3)) dav_nil)) vLen)) da_nil))) (by decide))
      (dss_cons (ds_asg (ps_asg (de_ofV (dv_ixU (room1 hr) (dv_var (pv 3)) (dv_var (pv 6)) (fun _ _ => rfl))) (dg_tup rfl (dgs_cons (dg_name (pg_name (i := 7) sc__law_no_house.nd rfl (by first | exact Or.inl rfl | exact Or.inr rfl)) (by decide)) (dgs_cons (dg_name (pg_name (i := 8) sc__law_no_house.nd rfl (by first | exact Or.inl rfl | exact Or.inr rfl)) (by decide)) dgs_nil)))))
      (dss_cons (ds_set (ps_set (i := 9) sc__law_no_house.nd rfl (by first | exact Or.inl rfl | exact Or.inr rfl) (de_callIOC C__law_take hr (by decide) rfl (L2N.takes_of rfl rfl rfl rfl) (pv 0) (da_cons (de_k pe_int fun _ _ => .int) da_nil))) (by decide))
      (dss_cons (ds_if (dt_cmpV op_ltU vLt (dv_var (pv 5)) (dv_k pe_int fun _ _ => .int) (nomark _))
      (dss_one (ds_ret (de_ixU (room1 hr) (de_fz (de_lst (da_cons (de_var (pv 4)) (da_cons (de_lst (da_cons (de_var (pv 2)) (da_cons (de_var (pv 3)) da_nil))) (da_cons (de_tup (da_cons (de_var (pv 2)) (da_cons (de_var (pv 3)) (da_cons (de_var (pv 4)) da_nil)))) da_nil))))) (de_var (pv 5)) (fun _ _ => rfl))))
      dss_nil)
      (dss_cons (ds_if (dt_cmpV (op_eqU (room64 hr)) vEq (dv_var (pv 5)) (dv_k pe_int fun _ _ => .int) (nomark _))
      (dss_one (ds_ret (de_tup (da_cons (de_ofV (dv_ixU (room1 hr) (dv_lst (dav_cons (dv_k pe_int fun _ _ => .int) (dav_cons (dv_k pe_int fun _ _ => .int) (dav_cons (dv_k pe_int fun _ _ => .int) (dav_cons (dv_un un_neg vNeg (dv_k pe_int fun _ _ => .int)) (dav_cons (dv_k pe_bl fun _ _ => .bl) (dav_cons (dv_k pe_str fun _ _ => .str) (dav_cons (dv_k pe_non fun _ _ => .non) (dav_cons (dv_op op_pow vPow (dv_k pe_int fun _ _ => .int) (dv_k pe_int fun _ _ => .int)) dav_nil))))))))) (dv_var (pv 9)) (fun _ _ => rfl))) (da_consL (pv 3) da_nil)))))
      dss_nil)
      (dss_cons (ds_if (dt_cmpV op_ltU vLt (dv_var (pv 5)) (dv_k pe_int fun _ _ => .int) (nomark _))
      (dss_one (ds_ret (de_ixU (room1 hr) (de_fz (de_lst (da_cons (de_tup (da_cons (de_var (pv 2)) (da_cons (de_callB (pe_callTy call_tuple_of (by rfl) B.tuple boot_tuple (da_cons (de_var (pv 3)) da_nil)) vTuple) da_nil))) (da_cons (de_tup (da_cons (de_var (pv 2)) (da_cons (de_lst da_nil) da_nil))) da_nil)))) (de_ofV (dv_op op_sub vSub (dv_var (pv 5)) (dv_k pe_int fun _ _ => .int))) (fun _ _ => rfl))))
      dss_nil)
      (dss_cons (ds_if (dt_cmpV (op_eqU (room64 hr)) vEq (dv_var (pv 5)) (dv_k pe_int fun _ _ => .int) (nomark _))
      (dss_one (ds_ret (de_tup (da_consL (pv 2) (da_cons (de_op op_addU vAdd (de_var (pv 3)) (de_fz (de_lst (da_cons (de_ofV (dv_ixU (room1 hr) (dv_var (pv 3)) (dv_var (pv 6)) (fun _ _ => rfl))) da_nil)))) da_nil)))))
      dss_nil)
      (dss_cons (ds_if (dt_cmpV (op_eqU (room64 hr)) vEq (dv_var (pv 5)) (dv_k pe_int fun _ _ => .int) (nomark _))
      (dss_one (ds_set (ps_set (i := 10) sc__law_no_house.nd rfl (by first | exact Or.inl rfl | exact Or.inr rfl) (de_tup (da_cons (de_ixU (room1 hr) (de_fz (de_lst (da_cons (de_k pe_str fun _ _ => .str) (da_cons (de_k pe_str fun _ _ => .str) (da_cons (de_k pe_str fun _ _ => .str) (da_cons (de_k pe_str fun _ _ => .str) (da_cons (de_k pe_str fun _ _ => .str) (da_cons (de_k pe_non fun _ _ => .non) (da_cons (de_k pe_int fun _ _ => .int) (da_cons (de_tup (da_cons (de_k pe_str fun _ _ => .str) da_nil)) da_nil)))))))))) (de_var (pv 9)) (fun _ _ => rfl)) (da_cons (de_var (pv 8)) da_nil)))) (by decide)))
      (dss_one (ds_if (dt_cmpV (op_eqU (room64 hr)) vEq (dv_var (pv 5)) (dv_k pe_int fun _ _ => .int) (nomark _))
      (dss_cons (ds_set (ps_set (i := 11) sc__law_no_house.nd rfl (by first | exact Or.inl rfl | exact Or.inr rfl) (de_ixU (room1 hr) (de_fz (de_lst (da_cons (de_lst da_nil) (da_cons (de_opEV op_addU vAdd (de_var (pv 8)) (dv_var (pv 8))) (da_cons (de_opEV op_addU vAdd (de_var (pv 8)) (dv_lst (dav_cons (dv_var (pv 2)) dav_nil))) (da_cons (de_opEV op_addU vAdd (de_lst (da_cons (de_ofV (dv_un un_neg vNeg (dv_k pe_int fun _ _ => .int))) da_nil)) (dv_var (pv 8))) (da_cons (de_callB (pe_callTy call_tuple_of (by rfl) B.tuple boot_tuple (da_cons (de_var (pv 8)) da_nil)) vTuple) (da_cons (de_lst (da_cons (de_k pe_bl fun _ _ => .bl) da_nil)) (da_cons (de_k pe_non fun _ _ => .non) (da_cons (de_k pe_str fun _ _ => .str) da_nil)))))))))) (de_var (pv 9)) (fun _ _ => rfl))) (by decide))
      (dss_one (ds_set (ps_set (i := 10) sc__law_no_house.nd rfl (by first | exact Or.inl rfl | exact Or.inr rfl) (de_tup (da_cons (de_var (pv 7)) (da_cons (de_var (pv 11)) da_nil)))) (by decide))))
      (dss_one (ds_if (dt_cmpV (op_eqU (room64 hr)) vEq (dv_var (pv 5)) (dv_k pe_int fun _ _ => .int) (nomark _))
      (dss_one (ds_set (ps_set (i := 10) sc__law_no_house.nd rfl (by first | exact Or.inl rfl | exact Or.inr rfl) (de_ixU (room1 hr) (de_fz (de_lst (da_cons (de_lst (da_cons (de_var (pv 7)) (da_cons (de_var (pv 8)) da_nil))) (da_cons (de_tup (da_cons (de_var (pv 7)) da_nil)) (da_cons (de_tup (da_cons (de_var (pv 7)) (da_cons (de_var (pv 8)) (da_cons (de_var (pv 4)) da_nil)))) (da_cons (de_var (pv 7)) (da_cons (de_k pe_non fun _ _ => .non) (da_cons (de_k pe_int fun _ _ => .int) (da_cons (de_tup da_nil) (da_cons (de_tup (da_cons (de_var (pv 8)) (da_cons (de_var (pv 7)) da_nil))) da_nil)))))))))) (de_var (pv 9)) (fun _ _ => rfl))) (by decide)))
      (dss_one (ds_if (dt_cmpV (op_eqU (room64 hr)) vEq (dv_var (pv 5)) (dv_k pe_int fun _ _ => .int) (nomark _))
      (dss_one (ds_ret (de_tup (da_consL (pv 2) (da_cons (de_opEV op_rep vRep (de_revL (de_var (pv 3))) (dv_callB (pe_callTy call_int1 (by rfl) B.int boot_int (dav_cons (dv_cmp op_gtU vGt (dv_callB (pe_callB call_lenU (by rfl) B.len boot_len (dav_cons (dv_var (pv 3)) dav_nil)) vLen) (dv_k pe_int fun _ _ => .int) (nomark _)) dav_nil)) vInt)) da_nil)))))
      (dss_one (ds_ret (de_tup (da_consL (pv 2) (da_cons (de_lc rfl (pe_lc (own := [("_law_sign", 12)]) (g := tG _ [0, 1, 2, 3, 4, 5, 6, 7, 8, 9, 10, 11] _) rfl sc__law_no_house.nd (di_str (de_k pe_str fun _ _ => .str)) (blkOk_by (own := [("_law_sign", 12)]) (by kernel_rfl)) (fun _ _ _ _ _ => (dg_name (pg_name (i := 12) sc__law_no_house.nd rfl (by first | exact Or.inl rfl | exact Or.inr rfl)) (by decide))) (fun _ _ _ _ _ => dts_0) (fun _ _ _ _ _ => (de_tup (da_cons (de_var (pv 12)) (da_cons (de_lst (da_cons (de_k pe_int fun _ _ => .int) da_nil)) da_nil)))))) da_nil))))))))))))
      (dss_one (ds_ret (de_tup (da_consL (pv 2) (da_cons (de_op op_addU vAdd (de_op op_addU vAdd (de_slice (de_var (pv 3)) do_0 (do_some (de_var (pv 6)))) (de_lst (da_cons (de_var (pv 10)) da_nil))) (de_slice (de_var (pv 3)) (do_some (de_ofV (dv_op op_addU vAdd (dv_var (pv 6)) (dv_k pe_int fun _ _ => .int)))) do_0)) da_nil))))))))))))))))
theorem ok__law_row_word {f : Addr} {fd : FuncData} (F : Fun K "_law_row_word" "_law_row_word" s__law_row_word f fd) (hm : mg "_law_row_word" = some (.ref f)) (B : Bi K w mg) (XT : ETx K mg CH [x0, x1, x2, x3, x4, x5, x6, x7, x8, x9, x10, x11, x12, x13, x14]) (C__law_word : CalH P w K mg base [x0, x1, x2, x3, x4, x5, x6, x7, x8, x9, x10, x11, x12, x13, x14] "_law_word" 2)  : Cal P w K mg base (RXP [x0, x1, x2, x3, x4, x5, x6, x7, x8, x9, x10, x11, x12, x13, x14]) "_law_row_word" 1 (List.replicate 1 false) m__law_row_word := by
  refine ⟨f, fd, ["_law_row"], fn_ok (k := 0) F sc__law_row_word rfl rfl fun cdv A outer s H E hr => ?_, hm, F.kp, F.binds fun _ _ _ _ _ _ us hl => match us, hl with | [_], _ => rfl⟩
  unfold b__law_row_word
  exact (dss_one (ds_ret (de_ixU (room1 hr) (de_fz (de_lst (da_cons (de_var (pv 0)) (da_cons (de_k pe_str fun _ _ => .str) da_nil)))) (de_ofV (dv_callB (pe_callTy call_int1 (by rfl) B.int boot_int (dav_cons (dv_cmp (op_eqU (room64 hr)) vEq (dv_var (pv 0)) (dv_k pe_str fun _ _ => .str) (nomark _)) dav_nil)) vInt)) (fun _ _ => rfl))))
theorem ok__law_set_words_rec {f : Addr} {fd : FuncData} (F : Fun K "_law_set_words" "_law_set_words" s__law_set_words f fd) (hm : mg "_law_set_words" = some (.ref f)) (B : Bi K w mg) (XT : ETx K mg CH [x0, x1, x2, x3, x4, x5, x6, x7, x8, x9, x10, x11, x12, x13, x14]) (C__law_word : CalH P w K mg base [x0, x1, x2, x3, x4, x5, x6, x7, x8, x9, x10, x11, x12, x13, x14] "_law_word" 2) (C__law_row_word : Cal P w K mg base (RXP [x0, x1, x2, x3, x4, x5, x6, x7, x8, x9, x10, x11, x12, x13, x14]) "_law_row_word" 1 (List.replicate 1 false) m__law_row_word) : ∀ n, Cal P w K mg base (RXP [x0, x1, x2, x3, x4, x5, x6, x7, x8, x9, x10, x11, x12, x13, x14]) "_law_set_words" (2 + n) (List.replicate 1 false) (r__law_set_words n) := by
  intro n
  induction n with
  | zero => exact ⟨f, fd, ["_law_one"], fn_ok (k := 1) F sc__law_set_words rfl rfl fun cdv A outer s H E hr => dss_stk, hm, F.kp, F.binds fun _ _ _ _ _ _ us hl => match us, hl with | [_], _ => rfl⟩
  | succ n C_rec =>
    refine ⟨f, fd, ["_law_one"], fn_ok (k := 2 + n) F sc__law_set_words rfl rfl fun cdv A outer s H E hr => ?_, hm, F.kp, F.binds fun _ _ _ _ _ _ us hl => match us, hl with | [_], _ => rfl⟩
    unfold b__law_set_words
    exact (dss_cons (ds_if (PW.pt (dw_or (dt_cmpV (op_eqU (room64 hr)) vEq (dv_ixU (room1 hr) (dv_var (pv 0)) (dv_k pe_int fun _ _ => .int) (fun _ _ => rfl)) (dv_k pe_str fun _ _ => .str) (nomark _)) (dw_or1 (dt_cmpV (op_eqU (room64 hr)) vEq (dv_ixU (room1 hr) (dv_var (pv 0)) (dv_k pe_int fun _ _ => .int) (fun _ _ => rfl)) (dv_k pe_str fun _ _ => .str) (nomark _)))))
      (dss_one (ds_ret (de_lst (da_cons (de_ofV (dv_ixU (room1 hr) (dv_var (pv 0)) (dv_k pe_int fun _ _ => .int) (fun _ _ => rfl))) (da_cons (de_callC C__law_row_word hr (by omega) rfl (L2N.takes_of rfl rfl rfl rfl) (da_cons (de_ofV (dv_ixU (room1 hr) (dv_var (pv 0)) (dv_k pe_int fun _ _ => .int) (fun _ _ => rfl))) da_nil)) da_nil)))))
      dss_nil)
      (dss_cons (ds_set (ps_set (i := 1) sc__law_set_words.nd rfl (by first | exact Or.inl rfl | exact Or.inr rfl) (de_lst (da_cons (de_ofV (dv_ixU (room1 hr) (dv_var (pv 0)) (dv_k pe_int fun _ _ => .int) (fun _ _ => rfl))) da_nil))) (by decide))
      (dss_cons (ds_for (passes_of rfl) rfl (di_tup (de_slice (de_var (pv 0)) (do_some (de_k pe_int fun _ _ => .int)) do_0)) (dg_name (pg_name (i := 2) sc__law_set_words.nd rfl (by first | exact Or.inl rfl | exact Or.inr rfl)) (by decide))
      (dss_one (ds_set (ps_set (i := 1) sc__law_set_words.nd rfl (by first | exact Or.inl rfl | exact Or.inr rfl) (de_op op_addU vAdd (de_var (pv 1)) (de_callC C_rec hr (Nat.le_refl _) rfl (L2N.takes_of rfl rfl rfl rfl) (da_cons (de_var (pv 2)) da_nil)))) (by decide))))
      (dss_one (ds_ret (de_mv (pv 1)))))))
theorem ok__law_set_words {f : Addr} {fd : FuncData} (F : Fun K "_law_set_words" "_law_set_words" s__law_set_words f fd) (hm : mg "_law_set_words" = some (.ref f)) (B : Bi K w mg) (XT : ETx K mg CH [x0, x1, x2, x3, x4, x5, x6, x7, x8, x9, x10, x11, x12, x13, x14]) (C__law_word : CalH P w K mg base [x0, x1, x2, x3, x4, x5, x6, x7, x8, x9, x10, x11, x12, x13, x14] "_law_word" 2) (C__law_row_word : Cal P w K mg base (RXP [x0, x1, x2, x3, x4, x5, x6, x7, x8, x9, x10, x11, x12, x13, x14]) "_law_row_word" 1 (List.replicate 1 false) m__law_row_word) : Cal P w K mg base (RXP [x0, x1, x2, x3, x4, x5, x6, x7, x8, x9, x10, x11, x12, x13, x14]) "_law_set_words" 15 (List.replicate 1 false) m__law_set_words := ok__law_set_words_rec F hm B XT C__law_word C__law_row_word 13
theorem ok__law_same_set_rec {f : Addr} {fd : FuncData} (F : Fun K "_law_same_set" "_law_same_set" s__law_same_set f fd) (hm : mg "_law_same_set" = some (.ref f)) (B : Bi K w mg) (XT : ETx K mg CH [x0, x1, x2, x3, x4, x5, x6, x7, x8, x9, x10, x11, x12, x13, x14]) (C__law_word : CalH P w K mg base [x0, x1, x2, x3, x4, x5, x6, x7, x8, x9, x10, x11, x12, x13, x14] "_law_word" 2)  : ∀ n, Cal P w K mg base (RXP [x0, x1, x2, x3, x4, x5, x6, x7, x8, x9, x10, x11, x12, x13, x14]) "_law_same_set" (1 + n) (List.replicate 2 false) (r__law_same_set n) := by
  intro n
  induction n with
  | zero => exact ⟨f, fd, ["_law_found", "_law_due"], fn_ok (k := 0) F sc__law_same_set rfl rfl fun cdv A outer s H E hr => dss_stk, hm, F.kp, F.binds fun _ _ _ _ _ _ us hl => match us, hl with | [_, _], _ => rfl⟩
  | succ n C_rec =>
    refine ⟨f, fd, ["_law_found", "_law_due"], fn_ok (k := 1 + n) F sc__law_same_set rfl rfl fun cdv A outer s H E hr => ?_, hm, F.kp, F.binds fun _ _ _ _ _ _ us hl => match us, hl with | [_, _], _ => rfl⟩
    unfold b__law_same_set
    exact (dss_cons (ds_if (dt_not (dt_valV (dv_callB (pe_callB call_isi (by rfl) B.isinstance boot_isinstance (dav_cons (dv_var (pv 1)) (dav_cons (dv_k (pe_bltn (v := .ty "tuple") (by rfl) B.tuple boot_tuple rfl) fun _ _ => .gv) dav_nil))) vIsi)))
      (dss_one (ds_ret (de_and (de_ofV (dv_callB (pe_callB call_isi (by rfl) B.isinstance boot_isinstance (dav_cons (dv_var (pv 0)) (dav_cons (dv_k (pe_bltn (v := .ty "str") (by rfl) B.str boot_str rfl) fun _ _ => .gv) dav_nil))) vIsi)) (de_one (de_ofV (dv_cmp (op_eqU (room64 hr)) vEq (dv_var (pv 0)) (dv_var (pv 1)) (nomark _)))))))
      dss_nil)
      (dss_cons (ds_if (PW.pt (dw_or (dt_not (dt_valV (dv_callB (pe_callB call_isi (by rfl) B.isinstance boot_isinstance (dav_cons (dv_var (pv 0)) (dav_cons (dv_k (pe_bltn (v := .ty "tuple") (by rfl) B.tuple boot_tuple rfl) fun _ _ => .gv) dav_nil))) vIsi))) (dw_or1 (dt_cmpV (op_neU (room64 hr)) vNe (dv_callB (pe_callB call_lenU (by rfl) B.len boot_len (dav_cons (dv_var (pv 0)) dav_nil)) vLen) (dv_callB (pe_callB call_lenU (by rfl) B.len boot_len (dav_cons (dv_var (pv 1)) dav_nil)) vLen) (nomark _)))))
      (dss_one (ds_ret (de_k pe_bl fun _ _ => .bl)))
      dss_nil)
      (dss_one (ds_ret (de_callB (pe_callB (cr_all rfl) (by rfl) B.all boot_all (da_cons (de_lc rfl (pe_lc (own := [("_law_one", 2), ("_law_other", 3)]) (g := tG _ [0, 1] _) rfl sc__law_same_set.nd (di_zipT (RZ.pi_zipA (by rfl) B.zip (da_cons (de_var (pv 0)) (da_cons (de_var (pv 1)) da_nil)))) (blkOk_by (own := [("_law_one", 2), ("_law_other", 3)]) (by kernel_rfl)) (fun _ _ _ _ _ => (dg_tup rfl (dgs_cons (dg_name (pg_name (i := 2) sc__law_same_set.nd rfl (by first | exact Or.inl rfl | exact Or.inr rfl)) (by decide)) (dgs_cons (dg_name (pg_name (i := 3) sc__law_same_set.nd rfl (by first | exact Or.inl rfl | exact Or.inr rfl)) (by decide)) dgs_nil)))) (fun _ _ _ _ _ => dts_0) (fun _ _ _ _ _ => (de_callC C_rec hr (Nat.le_refl _) rfl takesN0 (da_cons (de_var (pv 2)) (da_cons (de_var (pv 3)) da_nil)))))) da_nil)) vAll)))))
theorem ok__law_same_set {f : Addr} {fd : FuncData} (F : Fun K "_law_same_set" "_law_same_set" s__law_same_set f fd) (hm : mg "_law_same_set" = some (.ref f)) (B : Bi K w mg) (XT : ETx K mg CH [x0, x1, x2, x3, x4, x5, x6, x7, x8, x9, x10, x11, x12, x13, x14]) (C__law_word : CalH P w K mg base [x0, x1, x2, x3, x4, x5, x6, x7, x8, x9, x10, x11, x12, x13, x14] "_law_word" 2)  : Cal P w K mg base (RXP [x0, x1, x2, x3, x4, x5, x6, x7, x8, x9, x10, x11, x12, x13, x14]) "_law_same_set" 15 (List.replicate 2 false) m__law_same_set := ok__law_same_set_rec F hm B XT C__law_word  14
theorem ok__law_cell {f : Addr} {fd : FuncData} (F : Fun K "_law_cell" "_law_cell" s__law_cell f fd) (hm : mg "_law_cell" = some (.ref f)) (B : Bi K w mg) (XT : ETx K mg CH [x0, x1, x2, x3, x4, x5, x6, x7, x8, x9, x10, x11, x12, x13, x14]) (C__law_word : CalH P w K mg base [x0, x1, x2, x3, x4, x5, x6, x7, x8, x9, x10, x11, x12, x13, x14] "_law_word" 2)  : Cal P w K mg base (RXP [x0, x1, x2, x3, x4, x5, x6, x7, x8, x9, x10, x11, x12, x13, x14]) "_law_cell" 1 (List.replicate 2 false) m__law_cell := by
  refine ⟨f, fd, ["_law_script", "_law_k"], fn_ok (k := 0) F sc__law_cell rfl rfl fun cdv A outer s H E hr => ?_, hm, F.kp, F.binds fun _ _ _ _ _ _ us hl => match us, hl with | [_, _], _ => rfl⟩
  unfold b__law_cell
  exact (dss_cons (ds_if (dt_cmpV op_ltU vLt (dv_var (pv 1)) (dv_callB (pe_callB call_lenU (by rfl) B.len boot_len (dav_cons (dv_var (pv 0)) dav_nil)) vLen) (nomark _))
      (dss_one (ds_ret (de_ofV (dv_ixU (room1 hr) (dv_var (pv 0)) (dv_var (pv 1)) (fun _ _ => rfl)))))
      dss_nil)
      (dss_one (ds_ret (de_k pe_int fun _ _ => .int))))
theorem ok__law_whole {f : Addr} {fd : FuncData} (F : Fun K "_law_whole" "_law_whole" s__law_whole f fd) (hm : mg "_law_whole" = some (.ref f)) (B : Bi K w mg) (XT : ETx K mg CH [x0, x1, x2, x3, x4, x5, x6, x7, x8, x9, x10, x11, x12, x13, x14]) (C__law_word : CalH P w K mg base [x0, x1, x2, x3, x4, x5, x6, x7, x8, x9, x10, x11, x12, x13, x14] "_law_word" 2)  : Cal P w K mg base (RXP [x0, x1, x2, x3, x4, x5, x6, x7, x8, x9, x10, x11, x12, x13, x14]) "_law_whole" 1 (List.replicate 1 false) m__law_whole := by
  refine ⟨f, fd, ["_law_thing"], fn_ok (k := 0) F sc__law_whole rfl rfl fun cdv A outer s H E hr => ?_, hm, F.kp, F.binds fun _ _ _ _ _ _ us hl => match us, hl with | [_], _ => rfl⟩
  unfold b__law_whole
  exact (dss_one (ds_ret (de_and (de_ofV (dv_callB (pe_callB call_isi (by rfl) B.isinstance boot_isinstance (dav_cons (dv_var (pv 0)) (dav_cons (dv_k (pe_bltn (v := .ty "int") (by rfl) B.int boot_int rfl) fun _ _ => .gv) dav_nil))) vIsi)) (de_one (de_not (de_ofV (dv_callB (pe_callB call_isi (by rfl) B.isinstance boot_isinstance (dav_cons (dv_var (pv 0)) (dav_cons (dv_k (pe_bltn (v := .ty "bool") (by rfl) B.bool boot_bool rfl) fun _ _ => .gv) dav_nil))) vIsi)))))))
theorem ok__law_same_rec {f : Addr} {fd : FuncData} (F : Fun K "_law_same" "_law_same" s__law_same f fd) (hm : mg "_law_same" = some (.ref f)) (B : Bi K w mg) (XT : ETx K mg CH [x0, x1, x2, x3, x4, x5, x6, x7, x8, x9, x10, x11, x12, x13, x14]) (C__law_word : CalH P w K mg base [x0, x1, x2, x3, x4, x5, x6, x7, x8, x9, x10, x11, x12, x13, x14] "_law_word" 2) (C__law_whole : Cal P w K mg base (RXP [x0, x1, x2, x3, x4, x5, x6, x7, x8, x9, x10, x11, x12, x13, x14]) "_law_whole" 1 (List.replicate 1 false) m__law_whole) : ∀ n, Cal P w K mg base (RXP [x0, x1, x2, x3, x4, x5, x6, x7, x8, x9, x10, x11, x12, x13, x14]) "_law_same" (2 + n) (List.replicate 2 false) (r__law_same n) := by
  intro n
  induction n with
  | zero => exact ⟨f, fd, ["_law_found", "_law_due"], fn_ok (k := 1) F sc__law_same rfl rfl fun cdv A outer s H E hr => dss_stk, hm, F.kp, F.binds fun _ _ _ _ _ _ us hl => match us, hl with | [_, _], _ => rfl⟩
  | succ n C_rec =>
    refine ⟨f, fd, ["_law_found", "_law_due"], fn_ok (k := 2 + n) F sc__law_same rfl rfl fun cdv A outer s H E hr => ?_, hm, F.kp, F.binds fun _ _ _ _ _ _ us hl => match us, hl with | [_, _], _ => rfl⟩
    unfold b__law_same
    exact (dss_cons (ds_if (dt_valV (dv_callB (pe_callB call_isi (by rfl) B.isinstance boot_isinstance (dav_cons (dv_var (pv 1)) (dav_cons (dv_k (pe_bltn (v := .ty "tuple") (by rfl) B.tuple boot_tuple rfl) fun _ _ => .gv) dav_nil))) vIsi))
      (dss_cons (ds_if (PW.pt (dw_or (dt_not (dt_valV (dv_callB (pe_callB call_isi (by rfl) B.isinstance boot_isinstance (dav_cons (dv_var (pv 0)) (dav_cons (dv_k (pe_bltn (v := .ty "tuple") (by rfl) B.tuple boot_tuple rfl) fun _ _ => .gv) dav_nil))) vIsi))) (dw_or1 (dt_cmpV (op_neU (room64 hr)) vNe (dv_callB (pe_callB call_lenU (by rfl) B.len boot_len (dav_cons (dv_var (pv 0)) dav_nil)) vLen) (dv_callB (pe_callB call_lenU (by rfl) B.len boot_len (dav_cons (dv_var (pv 1)) dav_nil)) vLen) (nomark _)))))
      (dss_one (ds_ret (de_k pe_bl fun _ _ => .bl)))
      dss_nil)
      (dss_one ds_stk))
      dss_nil)
      (dss_cons (ds_if (dt_valV (dv_callB (pe_callB call_isi (by rfl) B.isinstance boot_isinstance (dav_cons (dv_var (pv 1)) (dav_cons (dv_k (pe_bltn (v := .ty "str") (by rfl) B.str boot_str rfl) fun _ _ => .gv) dav_nil))) vIsi))
      (dss_one (ds_ret (de_and (de_ofV (dv_callB (pe_callB call_isi (by rfl) B.isinstance boot_isinstance (dav_cons (dv_var (pv 0)) (dav_cons (dv_k (pe_bltn (v := .ty "str") (by rfl) B.str boot_str rfl) fun _ _ => .gv) dav_nil))) vIsi)) (de_one (de_ofV (dv_cmp (op_eqU (room64 hr)) vEq (dv_var (pv 0)) (dv_var (pv 1)) (nomark _)))))))
      dss_nil)
      (dss_cons (ds_if (dt_cmpV op_isU vIs (dv_var (pv 1)) (dv_k pe_non fun _ _ => .non) (nomark _))
      (dss_one (ds_ret (de_ofV (dv_cmp op_isU vIs (dv_var (pv 0)) (dv_k pe_non fun _ _ => .non) (nomark _)))))
      dss_nil)
      (dss_one (ds_ret (de_and (de_callC C__law_whole hr (by omega) rfl (L2N.takes_of rfl rfl rfl rfl) (da_cons (de_var (pv 0)) da_nil)) (de_one (de_ofV (dv_cmp (op_eqU (room64 hr)) vEq (dv_var (pv 0)) (dv_var (pv 1)) (nomark _))))))))))
theorem ok__law_same {f : Addr} {fd : FuncData} (F : Fun K "_law_same" "_law_same" s__law_same f fd) (hm : mg "_law_same" = some (.ref f)) (B : Bi K w mg) (XT : ETx K mg CH [x0, x1, x2, x3, x4, x5, x6, x7, x8, x9, x10, x11, x12, x13, x14]) (C__law_word : CalH P w K mg base [x0, x1, x2, x3, x4, x5, x6, x7, x8, x9, x10, x11, x12, x13, x14] "_law_word" 2) (C__law_whole : Cal P w K mg base (RXP [x0, x1, x2, x3, x4, x5, x6, x7, x8, x9, x10, x11, x12, x13, x14]) "_law_whole" 1 (List.replicate 1 false) m__law_whole) : Cal P w K mg base (RXP [x0, x1, x2, x3, x4, x5, x6, x7, x8, x9, x10, x11, x12, x13, x14]) "_law_same" 8 (List.replicate 2 false) m__law_same := ok__law_same_rec F hm B XT C__law_word C__law_whole 6
theorem ok_is_whole {f : Addr} {fd : FuncData} (F : Fun K "is_whole" "is_whole" s_is_whole f fd) (hm : mg "is_whole" = some (.ref f)) (B : Bi K w mg) (XT : ETx K mg CH [x0, x1, x2, x3, x4, x5, x6, x7, x8, x9, x10, x11, x12, x13, x14]) (C__law_word : CalH P w K mg base [x0, x1, x2, x3, x4, x5, x6, x7, x8, x9, x10, x11, x12, x13, x14] "_law_word" 2)  : Cal P w K mg base (RXP [x0, x1, x2, x3, x4, x5, x6, x7, x8, x9, x10, x11, x12, x13, x14]) "is_whole" 1 (List.replicate 1 false) m_is_whole := by
  refine ⟨f, fd, ["thing"], fn_ok (k := 0) F sc_is_whole rfl rfl fun cdv A outer s H E hr => ?_, hm, F.kp, F.binds fun _ _ _ _ _ _ us hl => match us, hl with | [_], _ => rfl⟩
  unfold b_is_whole
  exact (dss_one (ds_ret (de_and (de_ofV (dv_callB (pe_callB call_isi (by rfl) B.isinstance boot_isinstance (dav_cons (dv_var (pv 0)) (dav_cons (dv_k (pe_bltn (v := .ty "int") (by rfl) B.int boot_int rfl) fun _ _ => .gv) dav_nil))) vIsi)) (de_one (de_not (de_ofV (dv_callB (pe_callB call_isi (by rfl) B.isinstance boot_isinstance (dav_cons (dv_var (pv 0)) (dav_cons (dv_k (pe_bltn (v := .ty "bool") (by rfl) B.bool boot_bool rfl) fun _ _ => .gv) dav_nil))) vIsi)))))))
theorem ok_is_sign {f : Addr} {fd : FuncData} (F : Fun K "is_sign" "is_sign" s_is_sign f fd) (hm : mg "is_sign" = some (.ref f)) (B : Bi K w mg) (XT : ETx K mg CH [x0, x1, x2, x3, x4, x5, x6, x7, x8, x9, x10, x11, x12, x13, x14]) (C__law_word : CalH P w K mg base [x0, x1, x2, x3, x4, x5, x6, x7, x8, x9, x10, x11, x12, x13, x14] "_law_word" 2)  : Cal P w K mg base (RXP [x0, x1, x2, x3, x4, x5, x6, x7, x8, x9, x10, x11, x12, x13, x14]) "is_sign" 1 (List.replicate 1 false) m_is_sign := by
  refine ⟨f, fd, ["thing"], fn_ok (k := 0) F sc_is_sign rfl rfl fun cdv A outer s H E hr => ?_, hm, F.kp, F.binds fun _ _ _ _ _ _ us hl => match us, hl with | [_], _ => rfl⟩
  unfold b_is_sign
  exact (dss_one (ds_ret (de_and (de_ofV (dv_callB (pe_callB call_isi (by rfl) B.isinstance boot_isinstance (dav_cons (dv_var (pv 0)) (dav_cons (dv_k (pe_bltn (v := .ty "str") (by rfl) B.str boot_str rfl) fun _ _ => .gv) dav_nil))) vIsi)) (de_and (de_ofV (dv_cmp (op_eqU (room64 hr)) vEq (dv_callB (pe_callB call_lenU (by rfl) B.len boot_len (dav_cons (dv_var (pv 0)) dav_nil)) vLen) (dv_k pe_int fun _ _ => .int) (nomark _))) (de_one (de_ofV (dv_cmp (op_inU (room65 hr)) vIn (dv_var (pv 0)) (dv_k (pe_globS (by rfl) B.c_LETTERS_houses) fun _ _ => .str) rfl)))))))
theorem ok_is_rising {f : Addr} {fd : FuncData} (F : Fun K "is_rising" "is_rising" s_is_rising f fd) (hm : mg "is_rising" = some (.ref f)) (B : Bi K w mg) (XT : ETx K mg CH [x0, x1, x2, x3, x4, x5, x6, x7, x8, x9, x10, x11, x12, x13, x14]) (C__law_word : CalH P w K mg base [x0, x1, x2, x3, x4, x5, x6, x7, x8, x9, x10, x11, x12, x13, x14] "_law_word" 2) (C_is_whole : Cal P w K mg base (RXP [x0, x1, x2, x3, x4, x5, x6, x7, x8, x9, x10, x11, x12, x13, x14]) "is_whole" 1 (List.replicate 1 false) m_is_whole) : Cal P w K mg base (RXP [x0, x1, x2, x3, x4, x5, x6, x7, x8, x9, x10, x11, x12, x13, x14]) "is_rising" 2 (List.replicate 2 false) m_is_rising := by
  refine ⟨f, fd, ["things", "many"], fn_ok (k := 1) F sc_is_rising rfl rfl fun cdv A outer s H E hr => ?_, hm, F.kp, F.binds fun _ _ _ _ _ _ us hl => match us, hl with | [_, _], _ => rfl⟩
  unfold b_is_rising
  exact (dss_cons (ds_if (dt_not (dt_valV (dv_callB (pe_callB call_isi (by rfl) B.isinstance boot_isinstance (dav_cons (dv_var (pv 0)) (dav_cons (dv_k (pe_bltn (v := .ty "list") (by rfl) B.list PyProof.Rows.boot_list rfl) fun _ _ => .gv) dav_nil))) vIsi)))
      (dss_one (ds_ret (de_k pe_bl fun _ _ => .bl)))
      dss_nil)
      (dss_cons (ds_set (ps_set (i := 2) sc_is_rising.nd rfl (by first | exact Or.inl rfl | exact Or.inr rfl) (de_ofV (dv_un un_neg vNeg (dv_k pe_int fun _ _ => .int)))) (by decide))
      (dss_cons (ds_for (passes_of rfl) rfl (di_list (de_var (pv 0))) (dg_name (pg_name (i := 3) sc_is_rising.nd rfl (by first | exact Or.inl rfl | exact Or.inr rfl)) (by decide))
      (dss_cons (ds_if (PW.pt (dw_or (dt_not (dt_val (de_callC C_is_whole hr (by decide) rfl (L2N.takes_of rfl rfl rfl rfl) (da_cons (de_var (pv 3)) da_nil)))) (dw_or1 (dt_not (dt_chain op_ltU vLt op_ltU vLt (de_var (pv 2)) (de_var (pv 3)) (de_var (pv 1)))))))
      (dss_one (ds_ret (de_k pe_bl fun _ _ => .bl)))
      dss_nil)
      (dss_one (ds_set (ps_set (i := 2) sc_is_rising.nd rfl (by first | exact Or.inl rfl | exact Or.inr rfl) (de_var (pv 3))) (by decide)))))
      (dss_one (ds_ret (de_k pe_bl fun _ _ => .bl))))))
theorem ok_is_entry {f : Addr} {fd : FuncData} (F : Fun K "is_entry" "is_entry" s_is_entry f fd) (hm : mg "is_entry" = some (.ref f)) (B : Bi K w mg) (XT : ETx K mg CH [x0, x1, x2, x3, x4, x5, x6, x7, x8, x9, x10, x11, x12, x13, x14]) (C__law_word : CalH P w K mg base [x0, x1, x2, x3, x4, x5, x6, x7, x8, x9, x10, x11, x12, x13, x14] "_law_word" 2) (C_is_rising : Cal P w K mg base (RXP [x0, x1, x2, x3, x4, x5, x6, x7, x8, x9, x10, x11, x12, x13, x14]) "is_rising" 2 (List.replicate 2 false) m_is_rising) (C_is_sign : Cal P w K mg base (RXP [x0, x1, x2, x3, x4, x5, x6, x7, x8, x9, x10, x11, x12, x13, x14]) "is_sign" 1 (List.replicate 1 false) m_is_sign) : Cal P w K mg base (RXP [x0, x1, x2, x3, x4, x5, x6, x7, x8, x9, x10, x11, x12, x13, x14]) "is_entry" 3 (List.replicate 2 false) m_is_entry := by
  refine ⟨f, fd, ["thing", "hands"], fn_ok (k := 2) F sc_is_entry rfl rfl fun cdv A outer s H E hr => ?_, hm, F.kp, F.binds fun _ _ _ _ _ _ us hl => match us, hl with | [_, _], _ => rfl⟩
  unfold b_is_entry
  exact (dss_cons (ds_if (PW.pt (dw_or (dt_not (dt_valV (dv_callB (pe_callB call_isi (by rfl) B.isinstance boot_isinstance (dav_cons (dv_var (pv 0)) (dav_cons (dv_k (pe_bltn (v := .ty "tuple") (by rfl) B.tuple boot_tuple rfl) fun _ _ => .gv) dav_nil))) vIsi))) (dw_or (dt_cmpV (op_neU (room64 hr)) vNe (dv_callB (pe_callB call_lenU (by rfl) B.len boot_len (dav_cons (dv_var (pv 0)) dav_nil)) vLen) (dv_k pe_int fun _ _ => .int) (nomark _)) (dw_or1 (dt_not (dt_val (de_callC C_is_sign hr (by decide) rfl (L2N.takes_of rfl rfl rfl rfl) (da_cons (de_ofV (dv_ixU (room1 hr) (dv_var (pv 0)) (dv_k pe_int fun _ _ => .int) (fun _ _ => rfl))) da_nil))))))))
      (dss_one (ds_ret (de_k pe_bl fun _ _ => .bl)))
      dss_nil)
      (dss_one (ds_ret (de_and (de_callC C_is_rising hr (by decide) rfl (L2N.takes_of rfl rfl rfl rfl) (da_cons (de_ofV (dv_ixU (room1 hr) (dv_var (pv 0)) (dv_k pe_int fun _ _ => .int) (fun _ _ => rfl))) (da_cons (de_var (pv 1)) da_nil))) (de_one (de_ofV (dv_cmp op_gtU vGt (dv_callB (pe_callB call_lenU (by rfl) B.len boot_len (dav_cons (dv_ixU (room1 hr) (dv_var (pv 0)) (dv_k pe_int fun _ _ => .int) (fun _ _ => rfl)) dav_nil)) vLen) (dv_k pe_int fun _ _ => .int) (nomark _))))))))
theorem ok_is_house {f : Addr} {fd : FuncData} (F : Fun K "is_house" "is_house" s_is_house f fd) (hm : mg "is_house" = some (.ref f)) (B : Bi K w mg) (XT : ETx K mg CH [x0, x1, x2, x3, x4, x5, x6, x7, x8, x9, x10, x11, x12, x13, x14]) (C__law_word : CalH P w K mg base [x0, x1, x2, x3, x4, x5, x6, x7, x8, x9, x10, x11, x12, x13, x14] "_law_word" 2) (C_is_entry : Cal P w K mg base (RXP [x0, x1, x2, x3, x4, x5, x6, x7, x8, x9, x10, x11, x12, x13, x14]) "is_entry" 3 (List.replicate 2 false) m_is_entry) (C_is_whole : Cal P w K mg base (RXP [x0, x1, x2, x3, x4, x5, x6, x7, x8, x9, x10, x11, x12, x13, x14]) "is_whole" 1 (List.replicate 1 false) m_is_whole) : Cal P w K mg base (RXP [x0, x1, x2, x3, x4, x5, x6, x7, x8, x9, x10, x11, x12, x13, x14]) "is_house" 4 (List.replicate 1 false) m_is_house := by
  refine ⟨f, fd, ["thing"], fn_ok (k := 3) F sc_is_house rfl rfl fun cdv A outer s H E hr => ?_, hm, F.kp, F.binds fun _ _ _ _ _ _ us hl => match us, hl with | [_], _ => rfl⟩
  unfold b_is_house
  exact (dss_cons (ds_if (PW.pt (dw_or (dt_not (dt_valV (dv_callB (pe_callB call_isi (by rfl) B.isinstance boot_isinstance (dav_cons (dv_var (pv 0)) (dav_cons (dv_k (pe_bltn (v := .ty "tuple") (by rfl) B.tuple boot_tuple rfl) fun _ _ => .gv) dav_nil))) vIsi))) (dw_or1 (dt_cmpV (op_neU (room64 hr)) vNe (dv_callB (pe_callB call_lenU (by rfl) B.len boot_len (dav_cons (dv_var (pv 0)) dav_nil)) vLen) (dv_k pe_int fun _ _ => .int) (nomark _)))))
      (dss_one (ds_ret (de_k pe_bl fun _ _ => .bl)))
      dss_nil)
      (dss_cons (ds_asg (ps_asg (de_var (pv 0)) (dg_tup rfl (dgs_cons (dg_name (pg_name (i := 1) sc_is_house.nd rfl (by first | exact Or.inl rfl | exact Or.inr rfl)) (by decide)) (dgs_cons (dg_name (pg_name (i := 2) sc_is_house.nd rfl (by first | exact Or.inl rfl | exact Or.inr rfl)) (by decide)) dgs_nil)))))
      (dss_cons (ds_if (PW.pt (dw_or (dt_not (dt_val (de_callC C_is_whole hr (by decide) rfl (L2N.takes_of rfl rfl rfl rfl) (da_cons (de_var (pv 1)) da_nil)))) (dw_or1 (dt_not (dt_chain op_leU vLe op_leU vLe (de_k (pe_globI (by rfl) B.c_FEWEST_HANDS) fun _ _ => .int) (de_var (pv 1)) (de_k (pe_globI (by rfl) B.c_MOST_HANDS) fun _ _ => .int))))))
      (dss_one (ds_ret (de_k pe_bl fun _ _ => .bl)))
      dss_nil)
      (dss_cons (ds_if (PW.pt (dw_or (dt_not (dt_valV (dv_callB (pe_callB call_isi (by rfl) B.isinstance boot_isinstance (dav_cons (dv_var (pv 2)) (dav_cons (dv_k (pe_bltn (v := .ty "list") (by rfl) B.list PyProof.Rows.boot_list rfl) fun _ _ => .gv) dav_nil))) vIsi))) (dw_or1 (dt_not (dt_chain op_leU vLe op_leU vLe (de_k pe_int fun _ _ => .int) (de_ofV (dv_callB (pe_callB call_lenU (by rfl) B.len boot_len (dav_cons (dv_var (pv 2)) dav_nil)) vLen)) (de_k (pe_globI (by rfl) B.c_MOST_LETTERS_houses) fun _ _ => .int))))))
      (dss_one (ds_ret (de_k pe_bl fun _ _ => .bl)))
      dss_nil)
      (dss_cons (ds_set (ps_set (i := 3) sc_is_house.nd rfl (by first | exact Or.inl rfl | exact Or.inr rfl) (de_k pe_str fun _ _ => .str)) (by decide))
      (dss_cons (ds_for (passes_of rfl) rfl (di_list (de_var (pv 2))) (dg_name (pg_name (i := 4) sc_is_house.nd rfl (by first | exact Or.inl rfl | exact Or.inr rfl)) (by decide))
      (dss_cons (ds_if (PW.pt (dw_or (dt_not (dt_val (de_callC C_is_entry hr (by decide) rfl (L2N.takes_of rfl rfl rfl rfl) (da_cons (de_var (pv 4)) (da_cons (de_var (pv 1)) da_nil))))) (dw_or1 (dt_not (dt_cmpV op_ltU vLt (dv_var (pv 3)) (dv_ixU (room1 hr) (dv_var (pv 4)) (dv_k pe_int fun _ _ => .int) (fun _ _ => rfl)) (nomark _))))))
      (dss_one (ds_ret (de_k pe_bl fun _ _ => .bl)))
      dss_nil)
      (dss_one (ds_set (ps_set (i := 3) sc_is_house.nd rfl (by first | exact Or.inl rfl | exact Or.inr rfl) (de_ofV (dv_ixU (room1 hr) (dv_var (pv 4)) (dv_k pe_int fun _ _ => .int) (fun _ _ => rfl)))) (by decide)))))
      (dss_one (ds_ret (de_k pe_bl fun _ _ => .bl)))))))))
theorem ok_look_house {f : Addr} {fd : FuncData} (F : Fun K "look_house" "look_house" s_look_house f fd) (hm : mg "look_house" = some (.ref f)) (B : Bi K w mg) (XT : ETx K mg CH [x0, x1, x2, x3, x4, x5, x6, x7, x8, x9, x10, x11, x12, x13, x14]) (C__law_word : CalH P w K mg base [x0, x1, x2, x3, x4, x5, x6, x7, x8, x9, x10, x11, x12, x13, x14] "_law_word" 2) (C_is_house : Cal P w K mg base (RXP [x0, x1, x2, x3, x4, x5, x6, x7, x8, x9, x10, x11, x12, x13, x14]) "is_house" 4 (List.replicate 1 false) m_is_house) : Cal P w K mg base (RXP [x0, x1, x2, x3, x4, x5, x6, x7, x8, x9, x10, x11, x12, x13, x14]) "look_house" 5 (List.replicate 1 false) m_look_house := by
  refine ⟨f, fd, ["thing"], fn_ok (k := 4) F sc_look_house rfl rfl fun cdv A outer s H E hr => ?_, hm, F.kp, F.binds fun _ _ _ _ _ _ us hl => match us, hl with | [_], _ => rfl⟩
  unfold b_look_house
  exact (dss_one (ds_if (dt_not (dt_val (de_callC C_is_house hr (by decide) rfl (L2N.takes_of rfl rfl rfl rfl) (da_cons (de_var (pv 0)) da_nil))))
      (dss_one (ds_raise (i := 0) (C := x0) XT.tab (XT.ex 0 (by decide) (by decide) _ rfl) rfl rfl rfl (L2N.takes_of rfl rfl rfl rfl) (by rfl)))
      dss_nil))
theorem ok_look_text {f : Addr} {fd : FuncData} (F : Fun K "look_text" "look_text" s_look_text f fd) (hm : mg "look_text" = some (.ref f)) (B : Bi K w mg) (XT : ETx K mg CH [x0, x1, x2, x3, x4, x5, x6, x7, x8, x9, x10, x11, x12, x13, x14]) (C__law_word : CalH P w K mg base [x0, x1, x2, x3, x4, x5, x6, x7, x8, x9, x10, x11, x12, x13, x14] "_law_word" 2)  : Cal P w K mg base (RXP [x0, x1, x2, x3, x4, x5, x6, x7, x8, x9, x10, x11, x12, x13, x14]) "look_text" 1 (List.replicate 1 false) m_look_text := by
  refine ⟨f, fd, ["thing"], fn_ok (k := 0) F sc_look_text rfl rfl fun cdv A outer s H E hr => ?_, hm, F.kp, F.binds fun _ _ _ _ _ _ us hl => match us, hl with | [_], _ => rfl⟩
  unfold b_look_text
  exact (dss_one (ds_if (dt_not (dt_valV (dv_callB (pe_callB call_isi (by rfl) B.isinstance boot_isinstance (dav_cons (dv_var (pv 0)) (dav_cons (dv_k (pe_bltn (v := .ty "str") (by rfl) B.str boot_str rfl) fun _ _ => .gv) dav_nil))) vIsi)))
      (dss_one (ds_raise (i := 13) (C := x13) XT.tab (XT.ex 13 (by decide) (by decide) _ rfl) rfl rfl rfl (L2N.takes_of rfl rfl rfl rfl) (by rfl)))
      dss_nil))
theorem ok_read_row {f : Addr} {fd : FuncData} (F : Fun K "read_row" "read_row" s_read_row f fd) (hm : mg "read_row" = some (.ref f)) (B : Bi K w mg) (XT : ETx K mg CH [x0, x1, x2, x3, x4, x5, x6, x7, x8, x9, x10, x11, x12, x13, x14]) (C__law_word : CalH P w K mg base [x0, x1, x2, x3, x4, x5, x6, x7, x8, x9, x10, x11, x12, x13, x14] "_law_word" 2)  : Cal P w K mg base (RXP [x0, x1, x2, x3, x4, x5, x6, x7, x8, x9, x10, x11, x12, x13, x14]) "read_row" 1 (List.replicate 1 false) m_read_row := by
  refine ⟨f, fd, ["word"], fn_ok (k := 0) F sc_read_row rfl rfl fun cdv A outer s H E hr => ?_, hm, F.kp, F.binds fun _ _ _ _ _ _ us hl => match us, hl with | [_], _ => rfl⟩
  unfold b_read_row
  exact (dss_cons (ds_if (dt_cmpV (op_eqU (room64 hr)) vEq (dv_var (pv 0)) (dv_k pe_str fun _ _ => .str) (nomark _))
      (dss_one (ds_ret (de_k pe_str fun _ _ => .str)))
      dss_nil)
      (dss_cons (ds_if (dt_cmpV (op_eqU (room64 hr)) vEq (dv_var (pv 0)) (dv_k pe_str fun _ _ => .str) (nomark _))
      (dss_one (ds_raise (i := 13) (C := x13) XT.tab (XT.ex 13 (by decide) (by decide) _ rfl) rfl rfl rfl (L2N.takes_of rfl rfl rfl rfl) (by rfl)))
      dss_nil)
      (dss_cons (ds_for (passes_of rfl) rfl (di_str (de_var (pv 0))) (dg_name (pg_name (i := 1) sc_read_row.nd rfl (by first | exact Or.inl rfl | exact Or.inr rfl)) (by decide))
      (dss_one (ds_if (dt_cmpV (op_ninU (room65 hr)) vNin (dv_var (pv 1)) (dv_k (pe_globS (by rfl) B.c_LETTERS_texts) fun _ _ => .str) rfl)
      (dss_one (ds_raise (i := 13) (C := x13) XT.tab (XT.ex 13 (by decide) (by decide) _ rfl) rfl rfl rfl (L2N.takes_of rfl rfl rfl rfl) (by rfl)))
      dss_nil)))
      (dss_one (ds_ret (de_mv (pv 0)))))))
theorem ok_read_first {f : Addr} {fd : FuncData} (F : Fun K "read_first" "read_first" s_read_first f fd) (hm : mg "read_first" = some (.ref f)) (B : Bi K w mg) (XT : ETx K mg CH [x0, x1, x2, x3, x4, x5, x6, x7, x8, x9, x10, x11, x12, x13, x14]) (C__law_word : CalH P w K mg base [x0, x1, x2, x3, x4, x5, x6, x7, x8, x9, x10, x11, x12, x13, x14] "_law_word" 2) (C_read_row : Cal P w K mg base (RXP [x0, x1, x2, x3, x4, x5, x6, x7, x8, x9, x10, x11, x12, x13, x14]) "read_row" 1 (List.replicate 1 false) m_read_row) : Cal P w K mg base (RXP [x0, x1, x2, x3, x4, x5, x6, x7, x8, x9, x10, x11, x12, x13, x14]) "read_first" 2 (List.replicate 2 false) m_read_first := by
  refine ⟨f, fd, ["words", "at"], fn_ok (k := 1) F sc_read_first rfl rfl fun cdv A outer s H E hr => ?_, hm, F.kp, F.binds fun _ _ _ _ _ _ us hl => match us, hl with | [_, _], _ => rfl⟩
  unfold b_read_first
  exact (dss_cons (ds_set (ps_set (i := 2) sc_read_first.nd rfl (by first | exact Or.inl rfl | exact Or.inr rfl) (de_ofV (dv_ixU (room1 hr) (dv_var (pv 0)) (dv_var (pv 1)) (fun _ _ => rfl)))) (by decide))
      (dss_cons (ds_if (dt_ninD B.c_PARTS (by rfl) (dv_var (pv 2)))
      (dss_one (ds_raise (i := 13) (C := x13) XT.tab (XT.ex 13 (by decide) (by decide) _ rfl) rfl rfl rfl (L2N.takes_of rfl rfl rfl rfl) (by rfl)))
      dss_nil)
      (dss_cons (ds_if (dt_cmpV (op_eqU (room64 hr)) vEq (dv_part B.c_PARTS (by rfl) (dv_var (pv 2)) pe_int (fun _ _ => rfl) (fun _ _ => rfl)) (dv_k pe_int fun _ _ => .int) (nomark _))
      (dss_one (ds_ret (de_tup (da_cons (de_tup (da_cons (de_var (pv 2)) da_nil)) (da_cons (de_ofV (dv_op op_addU vAdd (dv_var (pv 1)) (dv_k pe_int fun _ _ => .int))) da_nil)))))
      dss_nil)
      (dss_cons (ds_if (dt_cmpV (op_eqU (room64 hr)) vEq (dv_op op_addU vAdd (dv_var (pv 1)) (dv_k pe_int fun _ _ => .int)) (dv_callB (pe_callB call_lenU (by rfl) B.len boot_len (dav_cons (dv_var (pv 0)) dav_nil)) vLen) (nomark _))
      (dss_one (ds_raise (i := 13) (C := x13) XT.tab (XT.ex 13 (by decide) (by decide) _ rfl) rfl rfl rfl (L2N.takes_of rfl rfl rfl rfl) (by rfl)))
      dss_nil)
      (dss_one (ds_ret (de_tup (da_cons (de_tup (da_cons (de_var (pv 2)) (da_cons (de_callC C_read_row hr (by decide) rfl (L2N.takes_of rfl rfl rfl rfl) (da_cons (de_ofV (dv_ixU (room1 hr) (dv_var (pv 0)) (dv_op op_addU vAdd (dv_var (pv 1)) (dv_k pe_int fun _ _ => .int)) (fun _ _ => rfl))) da_nil)) da_nil))) (da_cons (de_ofV (dv_op op_addU vAdd (dv_var (pv 1)) (dv_k pe_int fun _ _ => .int))) da_nil)))))))))
theorem ok_is_done {f : Addr} {fd : FuncData} (F : Fun K "is_done" "is_done" s_is_done f fd) (hm : mg "is_done" = some (.ref f)) (B : Bi K w mg) (XT : ETx K mg CH [x0, x1, x2, x3, x4, x5, x6, x7, x8, x9, x10, x11, x12, x13, x14]) (C__law_word : CalH P w K mg base [x0, x1, x2, x3, x4, x5, x6, x7, x8, x9, x10, x11, x12, x13, x14] "_law_word" 2)  : Cal P w K mg base (RXP [x0, x1, x2, x3, x4, x5, x6, x7, x8, x9, x10, x11, x12, x13, x14]) "is_done" 1 (List.replicate 1 false) m_is_done := by
  refine ⟨f, fd, ["one"], fn_ok (k := 0) F sc_is_done rfl rfl fun cdv A outer s H E hr => ?_, hm, F.kp, F.binds fun _ _ _ _ _ _ us hl => match us, hl with | [_], _ => rfl⟩
  unfold b_is_done
  exact (dss_one (ds_ret (de_ofV (dv_cmp (op_eqU (room64 hr)) vEq (dv_callB (pe_callB call_lenU (by rfl) B.len boot_len (dav_cons (dv_var (pv 0)) dav_nil)) vLen) (dv_op op_addU vAdd (dv_k pe_int fun _ _ => .int) (dv_psum B.c_PARTS (by rfl) (dv_ixU (room1 hr) (dv_var (pv 0)) (dv_k pe_int fun _ _ => .int) (fun _ _ => rfl)) (fun _ _ => rfl) rfl (by rfl) B.sum (by rfl) B.list)) (nomark _)))))
theorem ok_read_words {f : Addr} {fd : FuncData} (F : Fun K "read_words" "read_words" s_read_words f fd) (hm : mg "read_words" = some (.ref f)) (B : Bi K w mg) (XT : ETx K mg CH [x0, x1, x2, x3, x4, x5, x6, x7, x8, x9, x10, x11, x12, x13, x14]) (C__law_word : CalH P w K mg base [x0, x1, x2, x3, x4, x5, x6, x7, x8, x9, x10, x11, x12, x13, x14] "_law_word" 2) (C_is_done : Cal P w K mg base (RXP [x0, x1, x2, x3, x4, x5, x6, x7, x8, x9, x10, x11, x12, x13, x14]) "is_done" 1 (List.replicate 1 false) m_is_done) (C_read_first : Cal P w K mg base (RXP [x0, x1, x2, x3, x4, x5, x6, x7, x8, x9, x10, x11, x12, x13, x14]) "read_first" 2 (List.replicate 2 false) m_read_first) : Cal P w K mg base (RXP [x0, x1, x2, x3, x4, x5, x6, x7, x8, x9, x10, x11, x12, x13, x14]) "read_words" 3 (List.replicate 1 false) m_read_words := by
  refine ⟨f, fd, ["words"], fn_ok (k := 2) F sc_read_words rfl rfl fun cdv A outer s H E hr => ?_, hm, F.kp, F.binds fun _ _ _ _ _ _ us hl => match us, hl with | [_], _ => rfl⟩
  unfold b_read_words
  exact (dss_cons (ds_set (ps_set (i := 1) sc_read_words.nd rfl (by first | exact Or.inl rfl | exact Or.inr rfl) (de_lst da_nil)) (by decide))
      (dss_cons (ds_set (ps_set (i := 2) sc_read_words.nd rfl (by first | exact Or.inl rfl | exact Or.inr rfl) (de_k pe_int fun _ _ => .int)) (by decide))
      (dss_cons (ds_set (ps_set (i := 3) sc_read_words.nd rfl (by first | exact Or.inl rfl | exact Or.inr rfl) (de_k pe_int fun _ _ => .int)) (by decide))
      (dss_cons (ds_while (passes_of rfl) (dt_cmpV op_ltU vLt (dv_var (pv 2)) (dv_callB (pe_callB call_lenU (by rfl) B.len boot_len (dav_cons (dv_var (pv 0)) dav_nil)) vLen) (nomark _))
      (dss_cons (ds_asg (ps_asg (de_callC C_read_first hr (by decide) rfl (L2N.takes_of rfl rfl rfl rfl) (da_cons (de_var (pv 0)) (da_cons (de_var (pv 2)) da_nil))) (dg_tup rfl (dgs_cons (dg_name (pg_name (i := 4) sc_read_words.nd rfl (by first | exact Or.inl rfl | exact Or.inr rfl)) (by decide)) (dgs_cons (dg_name (pg_name (i := 2) sc_read_words.nd rfl (by first | exact Or.inl rfl | exact Or.inr rfl)) (by decide)) dgs_nil)))))
      (dss_cons (ds_aug (vI2 (f := fun i j => i + j)) (ps_aug (i := 3) sc_read_words.nd rfl (by first | exact Or.inl rfl | exact Or.inr rfl) (de_k pe_int fun _ _ => .int) iop_add) (by decide))
      (dss_cons (ds_while (passes_of rfl) (PW.pt (dw_and (dt_val (de_callC C_is_done hr (by decide) rfl (L2N.takes_of rfl rfl rfl rfl) (da_cons (de_var (pv 4)) da_nil))) (dw_and1 (dt_cmpV op_gtU vGt (dv_callB (pe_callB call_lenU (by rfl) B.len boot_len (dav_cons (dv_var (pv 1)) dav_nil)) vLen) (dv_k pe_int fun _ _ => .int) (nomark _)))))
      (dss_one (ds_set (ps_set (i := 4) sc_read_words.nd rfl (by first | exact Or.inl rfl | exact Or.inr rfl) (de_op op_catA vAddT (de_pop0 (pe_bm0 PySem.F.plainAttrs_list PySem.F.slot_list_pop PySem.F.type_list_pop mt_pop (pv 1))) (de_tup (da_cons (de_var (pv 4)) da_nil)))) (by decide))))
      (dss_cons (ds_append (ps_expr (pe_bm PySem.F.plainAttrs_list PySem.F.slot_list_append PySem.F.type_list_append mt_append (pv 1) (da_consL (pv 4) da_nil))))
      (dss_one (ds_if (PW.pt (dw_and (dt_val (de_callC C_is_done hr (by decide) rfl (L2N.takes_of rfl rfl rfl rfl) (da_cons (de_var (pv 4)) da_nil))) (dw_and1 (dt_cmpV op_ltU vLt (dv_var (pv 2)) (dv_callB (pe_callB call_lenU (by rfl) B.len boot_len (dav_cons (dv_var (pv 0)) dav_nil)) vLen) (nomark _)))))
      (dss_one (ds_raise (i := 13) (C := x13) XT.tab (XT.ex 13 (by decide) (by decide) _ rfl) rfl rfl rfl (L2N.takes_of rfl rfl rfl rfl) (by rfl)))
      dss_nil)))))))
      (dss_cons (ds_if (dt_not (dt_valV (dv_callC C_is_done hr (by decide) rfl (dav_cons (dv_ixU (room1 hr) (dv_var (pv 1)) (dv_un un_neg vNeg (dv_k pe_int fun _ _ => .int)) (fun _ _ => rfl)) dav_nil))))
      (dss_one (ds_raise (i := 13) (C := x13) XT.tab (XT.ex 13 (by decide) (by decide) _ rfl) rfl rfl rfl (L2N.takes_of rfl rfl rfl rfl) (by rfl)))
      dss_nil)
      (dss_one (ds_ret (de_tup (da_cons (de_ofV (dv_ixU (room1 hr) (dv_var (pv 1)) (dv_un un_neg vNeg (dv_k pe_int fun _ _ => .int)) (fun _ _ => rfl))) (da_consL (pv 3) da_nil))))))))))
theorem ok_letters_of {f : Addr} {fd : FuncData} (F : Fun K "letters_of" "letters_of" s_letters_of f fd) (hm : mg "letters_of" = some (.ref f)) (B : Bi K w mg) (XT : ETx K mg CH [x0, x1, x2, x3, x4, x5, x6, x7, x8, x9, x10, x11, x12, x13, x14]) (C__law_word : CalH P w K mg base [x0, x1, x2, x3, x4, x5, x6, x7, x8, x9, x10, x11, x12, x13, x14] "_law_word" 2)  : Cal P w K mg base (RXP [x0, x1, x2, x3, x4, x5, x6, x7, x8, x9, x10, x11, x12, x13, x14]) "letters_of" 1 (List.replicate 1 false) m_letters_of := by
  refine ⟨f, fd, ["house"], fn_ok (k := 0) F sc_letters_of rfl rfl fun cdv A outer s H E hr => ?_, hm, F.kp, F.binds fun _ _ _ _ _ _ us hl => match us, hl with | [_], _ => rfl⟩
  unfold b_letters_of
  exact (dss_one (ds_ret (de_lc rfl (pe_lc (own := [("letter", 1), ("owned", 2)]) (g := tG _ [0] _) rfl sc_letters_of.nd (di_list (de_ofV (dv_ixU (room1 hr) (dv_var (pv 0)) (dv_k pe_int fun _ _ => .int) (fun _ _ => rfl)))) (blkOk_by (own := [("letter", 1), ("owned", 2)]) (by kernel_rfl)) (fun _ _ _ _ _ => (dg_tup rfl (dgs_cons (dg_name (pg_name (i := 1) sc_letters_of.nd rfl (by first | exact Or.inl rfl | exact Or.inr rfl)) (by decide)) (dgs_cons (dg_name (pg_name (i := 2) sc_letters_of.nd rfl (by first | exact Or.inl rfl | exact Or.inr rfl)) (by decide)) dgs_nil)))) (fun _ _ _ _ _ => dts_0) (fun _ _ _ _ _ => (de_var (pv 1)))))))
theorem ok_is_row {f : Addr} {fd : FuncData} (F : Fun K "is_row" "is_row" s_is_row f fd) (hm : mg "is_row" = some (.ref f)) (B : Bi K w mg) (XT : ETx K mg CH [x0, x1, x2, x3, x4, x5, x6, x7, x8, x9, x10, x11, x12, x13, x14]) (C__law_word : CalH P w K mg base [x0, x1, x2, x3, x4, x5, x6, x7, x8, x9, x10, x11, x12, x13, x14] "_law_word" 2) (C_letters_of : Cal P w K mg base (RXP [x0, x1, x2, x3, x4, x5, x6, x7, x8, x9, x10, x11, x12, x13, x14]) "letters_of" 1 (List.replicate 1 false) m_letters_of) (C_look_house : Cal P w K mg base (RXP [x0, x1, x2, x3, x4, x5, x6, x7, x8, x9, x10, x11, x12, x13, x14]) "look_house" 5 (List.replicate 1 false) m_look_house) : Cal P w K mg base (RXP [x0, x1, x2, x3, x4, x5, x6, x7, x8, x9, x10, x11, x12, x13, x14]) "is_row" 6 (List.replicate 2 false) m_is_row := by
  refine ⟨f, fd, ["house", "thing"], fn_ok (k := 5) F sc_is_row rfl rfl fun cdv A outer s H E hr => ?_, hm, F.kp, F.binds fun _ _ _ _ _ _ us hl => match us, hl with | [_, _], _ => rfl⟩
  unfold b_is_row
  exact (dss_cons (ds_drop (ps_expr (de_callC C_look_house hr (by decide) rfl (L2N.takes_of rfl rfl rfl rfl) (da_cons (de_var (pv 0)) da_nil))))
      (dss_one (ds_ret (de_and (de_ofV (dv_callB (pe_callB call_isi (by rfl) B.isinstance boot_isinstance (dav_cons (dv_var (pv 1)) (dav_cons (dv_k (pe_bltn (v := .ty "str") (by rfl) B.str boot_str rfl) fun _ _ => .gv) dav_nil))) vIsi)) (de_one (de_callB (pe_callB (cr_all rfl) (by rfl) B.all boot_all (da_cons (de_lc rfl (pe_lc (own := [("sign", 2)]) (g := tG _ [0, 1] _) rfl sc_is_row.nd (di_str (de_var (pv 1))) (blkOk_by (own := [("sign", 2)]) (by kernel_rfl)) (fun _ _ _ _ _ => (dg_name (pg_name (i := 2) sc_is_row.nd rfl (by first | exact Or.inl rfl | exact Or.inr rfl)) (by decide))) (fun _ _ _ _ _ => dts_0) (fun _ _ _ _ _ => (de_cmpL (op_inU (room65 hr)) vIn (pv 2) (de_callC C_letters_of hr (by decide) rfl takesN0 (da_cons (de_var (pv 0)) da_nil)) rfl)))) da_nil)) vAll))))))
theorem ok_tuples_in_rec {f : Addr} {fd : FuncData} (F : Fun K "tuples_in" "tuples_in" s_tuples_in f fd) (hm : mg "tuples_in" = some (.ref f)) (B : Bi K w mg) (XT : ETx K mg CH [x0, x1, x2, x3, x4, x5, x6, x7, x8, x9, x10, x11, x12, x13, x14]) (C__law_word : CalH P w K mg base [x0, x1, x2, x3, x4, x5, x6, x7, x8, x9, x10, x11, x12, x13, x14] "_law_word" 2) (C_is_row : Cal P w K mg base (RXP [x0, x1, x2, x3, x4, x5, x6, x7, x8, x9, x10, x11, x12, x13, x14]) "is_row" 6 (List.replicate 2 false) m_is_row) : ∀ n, Cal P w K mg base (RXP [x0, x1, x2, x3, x4, x5, x6, x7, x8, x9, x10, x11, x12, x13, x14]) "tuples_in" (7 + n) (List.replicate 2 false) (r_tuples_in n) := by
  intro n
  induction n with
  | zero => exact ⟨f, fd, ["house", "thing"], fn_ok (k := 6) F sc_tuples_in rfl rfl fun cdv A outer s H E hr => dss_stk, hm, F.kp, F.binds fun _ _ _ _ _ _ us hl => match us, hl with | [_, _], _ => rfl⟩
  | succ n C_rec =>
    refine ⟨f, fd, ["house", "thing"], fn_ok (k := 7 + n) F sc_tuples_in rfl rfl fun cdv A outer s H E hr => ?_, hm, F.kp, F.binds fun _ _ _ _ _ _ us hl => match us, hl with | [_, _], _ => rfl⟩
    unfold b_tuples_in
    exact (dss_cons (ds_if (PW.pt (dw_or (dt_not (dt_valV (dv_callB (pe_callB call_isi (by rfl) B.isinstance boot_isinstance (dav_cons (dv_var (pv 1)) (dav_cons (dv_k (pe_bltn (v := .ty "tuple") (by rfl) B.tuple boot_tuple rfl) fun _ _ => .gv) dav_nil))) vIsi))) (dw_or (dt_cmpV op_ltU vLt (dv_callB (pe_callB call_lenU (by rfl) B.len boot_len (dav_cons (dv_var (pv 1)) dav_nil)) vLen) (dv_k pe_int fun _ _ => .int) (nomark _)) (dw_or1 (dt_not (dt_valV (dv_callB (pe_callB call_isi (by rfl) B.isinstance boot_isinstance (dav_cons (dv_ixU (room1 hr) (dv_var (pv 1)) (dv_k pe_int fun _ _ => .int) (fun _ _ => rfl)) (dav_cons (dv_k (pe_bltn (v := .ty "str") (by rfl) B.str boot_str rfl) fun _ _ => .gv) dav_nil))) vIsi)))))))
      (dss_one (ds_ret (de_k pe_non fun _ _ => .non)))
      dss_nil)
      (dss_cons (ds_if (dt_inCe B.c_WITH_ROW (by rfl) (dv_ixU (room1 hr) (dv_var (pv 1)) (dv_k pe_int fun _ _ => .int) (fun _ _ => rfl)))
      (dss_cons (ds_if (PW.pt (dw_and (dt_cmpV (op_eqU (room64 hr)) vEq (dv_callB (pe_callB call_lenU (by rfl) B.len boot_len (dav_cons (dv_var (pv 1)) dav_nil)) vLen) (dv_k pe_int fun _ _ => .int) (nomark _)) (dw_and (dt_val (de_callC C_is_row hr (by omega) rfl (L2N.takes_of rfl rfl rfl rfl) (da_cons (de_var (pv 0)) (da_cons (de_ofV (dv_ixU (room1 hr) (dv_var (pv 1)) (dv_k pe_int fun _ _ => .int) (fun _ _ => rfl))) da_nil)))) (dw_and1 (dt_cmpV op_leU vLe (dv_callB (pe_callB call_lenU (by rfl) B.len boot_len (dav_cons (dv_ixU (room1 hr) (dv_var (pv 1)) (dv_k pe_int fun _ _ => .int) (fun _ _ => rfl)) dav_nil)) vLen) (dv_k (pe_globI (by rfl) B.c_MOST_LETTERS_sets) fun _ _ => .int) (nomark _))))))
      (dss_one (ds_ret (de_lst (da_consL (pv 1) da_nil))))
      dss_nil)
      (dss_one (ds_ret (de_k pe_non fun _ _ => .non))))
      dss_nil)
      (dss_cons (ds_if (dt_cmp (op_ninU (room65 hr)) vNin (de_tup (da_cons (de_ofV (dv_ixU (room1 hr) (dv_var (pv 1)) (dv_k pe_int fun _ _ => .int) (fun _ _ => rfl))) (da_cons (de_ofV (dv_callB (pe_callB call_lenU (by rfl) B.len boot_len (dav_cons (dv_var (pv 1)) dav_nil)) vLen)) da_nil))) (de_op op_addU vAdd (de_fz (de_lc rfl (pe_lc (own := [("word", 5)]) (g := tG _ [0, 1, 2, 3, 4] _) rfl sc_tuples_in.nd (di_Ce B.c_WITH_ONE (by rfl)) (blkOk_by (own := [("word", 5)]) (by kernel_rfl)) (fun _ _ _ _ _ => (dg_name (pg_name (i := 5) sc_tuples_in.nd rfl (by first | exact Or.inl rfl | exact Or.inr rfl)) (by decide))) (fun _ _ _ _ _ => dts_0) (fun _ _ _ _ _ => (de_tup (da_cons (de_var (pv 5)) (da_cons (de_k pe_int fun _ _ => .int) da_nil))))))) (de_fz (de_lc rfl (pe_lc (own := [("word", 5)]) (g := tG _ [0, 1, 2, 3, 4] _) rfl sc_tuples_in.nd (di_Ce B.c_WITH_TWO (by rfl)) (blkOk_by (own := [("word", 5)]) (by kernel_rfl)) (fun _ _ _ _ _ => (dg_name (pg_name (i := 5) sc_tuples_in.nd rfl (by first | exact Or.inl rfl | exact Or.inr rfl)) (by decide))) (fun _ _ _ _ _ => dts_0) (fun _ _ _ _ _ => (de_tup (da_cons (de_var (pv 5)) (da_cons (de_k pe_int fun _ _ => .int) da_nil)))))))) rfl)
      (dss_one (ds_ret (de_k pe_non fun _ _ => .non)))
      dss_nil)
      (dss_cons (ds_set (ps_set (i := 2) sc_tuples_in.nd rfl (by first | exact Or.inl rfl | exact Or.inr rfl) (de_lst (da_cons (de_var (pv 1)) da_nil))) (by decide))
      (dss_cons (ds_for (passes_of rfl) rfl (di_tup (de_slice (de_var (pv 1)) (do_some (de_k pe_int fun _ _ => .int)) do_0)) (dg_name (pg_name (i := 3) sc_tuples_in.nd rfl (by first | exact Or.inl rfl | exact Or.inr rfl)) (by decide))
      (dss_cons (ds_set (ps_set (i := 4) sc_tuples_in.nd rfl (by first | exact Or.inl rfl | exact Or.inr rfl) (de_callC C_rec hr (Nat.le_refl _) rfl (L2N.takes_of rfl rfl rfl rfl) (da_cons (de_var (pv 0)) (da_cons (de_var (pv 3)) da_nil)))) (by decide))
      (dss_cons (ds_if (dt_cmpV op_isU vIs (dv_var (pv 4)) (dv_k pe_non fun _ _ => .non) (nomark _))
      (dss_one (ds_ret (de_k pe_non fun _ _ => .non)))
      dss_nil)
      (dss_one (ds_extend (ps_expr (pe_bm PySem.F.plainAttrs_list PySem.F.slot_list_extend PySem.F.type_list_extend mt_extend (pv 2) (da_consL (pv 4) da_nil))))))))
      (dss_one (ds_ret (de_mv (pv 2)))))))))
theorem ok_tuples_in {f : Addr} {fd : FuncData} (F : Fun K "tuples_in" "tuples_in" s_tuples_in f fd) (hm : mg "tuples_in" = some (.ref f)) (B : Bi K w mg) (XT : ETx K mg CH [x0, x1, x2, x3, x4, x5, x6, x7, x8, x9, x10, x11, x12, x13, x14]) (C__law_word : CalH P w K mg base [x0, x1, x2, x3, x4, x5, x6, x7, x8, x9, x10, x11, x12, x13, x14] "_law_word" 2) (C_is_row : Cal P w K mg base (RXP [x0, x1, x2, x3, x4, x5, x6, x7, x8, x9, x10, x11, x12, x13, x14]) "is_row" 6 (List.replicate 2 false) m_is_row) : Cal P w K mg base (RXP [x0, x1, x2, x3, x4, x5, x6, x7, x8, x9, x10, x11, x12, x13, x14]) "tuples_in" 25 (List.replicate 2 false) m_tuples_in := ok_tuples_in_rec F hm B XT C__law_word C_is_row 18
theorem ok_is_set_of {f : Addr} {fd : FuncData} (F : Fun K "is_set_of" "is_set_of" s_is_set_of f fd) (hm : mg "is_set_of" = some (.ref f)) (B : Bi K w mg) (XT : ETx K mg CH [x0, x1, x2, x3, x4, x5, x6, x7, x8, x9, x10, x11, x12, x13, x14]) (C__law_word : CalH P w K mg base [x0, x1, x2, x3, x4, x5, x6, x7, x8, x9, x10, x11, x12, x13, x14] "_law_word" 2) (C_tuples_in : Cal P w K mg base (RXP [x0, x1, x2, x3, x4, x5, x6, x7, x8, x9, x10, x11, x12, x13, x14]) "tuples_in" 25 (List.replicate 2 false) m_tuples_in) : Cal P w K mg base (RXP [x0, x1, x2, x3, x4, x5, x6, x7, x8, x9, x10, x11, x12, x13, x14]) "is_set_of" 26 (List.replicate 2 false) m_is_set_of := by
  refine ⟨f, fd, ["house", "thing"], fn_ok (k := 25) F sc_is_set_of rfl rfl fun cdv A outer s H E hr => ?_, hm, F.kp, F.binds fun _ _ _ _ _ _ us hl => match us, hl with | [_, _], _ => rfl⟩
  unfold b_is_set_of
  exact (dss_cons (ds_set (ps_set (i := 2) sc_is_set_of.nd rfl (by first | exact Or.inl rfl | exact Or.inr rfl) (de_callC C_tuples_in hr (by decide) rfl (L2N.takes_of rfl rfl rfl rfl) (da_cons (de_var (pv 0)) (da_cons (de_var (pv 1)) da_nil)))) (by decide))
      (dss_cons (ds_if (PW.pt (dw_or (dt_cmpV op_isU vIs (dv_var (pv 2)) (dv_k pe_non fun _ _ => .non) (nomark _)) (dw_or1 (dt_cmpV op_gtU vGt (dv_callB (pe_callB call_lenU (by rfl) B.len boot_len (dav_cons (dv_var (pv 2)) dav_nil)) vLen) (dv_k (pe_globI (by rfl) B.c_MOST_TUPLES_sets) fun _ _ => .int) (nomark _)))))
      (dss_one (ds_ret (de_k pe_bl fun _ _ => .bl)))
      dss_nil)
      (dss_one (ds_ret (de_cmpEV op_leU vLe (de_callB (pe_callB call_lenU (by rfl) B.len boot_len (da_cons (de_lc rfl (pe_lc (own := [("one", 3)]) (g := tG _ [0, 1, 2] _) rfl sc_is_set_of.nd (di_list (de_var (pv 2))) (blkOk_by (own := [("one", 3)]) (by kernel_rfl)) (fun _ _ _ _ _ => (dg_name (pg_name (i := 3) sc_is_set_of.nd rfl (by first | exact Or.inl rfl | exact Or.inr rfl)) (by decide))) (fun _ _ _ _ _ => (dts_one (dt_inCe B.c_WITH_ROW (by rfl) (dv_ixU (room1 hr) (dv_var (pv 3)) (dv_k pe_int fun _ _ => .int) (fun _ _ => rfl))))) (fun _ _ _ _ _ => (de_var (pv 3))))) da_nil)) vLen) (dv_k (pe_globI (by rfl) B.c_MOST_ROWS) fun _ _ => .int) (nomark _))))))
theorem ok_is_set {f : Addr} {fd : FuncData} (F : Fun K "is_set" "is_set" s_is_set f fd) (hm : mg "is_set" = some (.ref f)) (B : Bi K w mg) (XT : ETx K mg CH [x0, x1, x2, x3, x4, x5, x6, x7, x8, x9, x10, x11, x12, x13, x14]) (C__law_word : CalH P w K mg base [x0, x1, x2, x3, x4, x5, x6, x7, x8, x9, x10, x11, x12, x13, x14] "_law_word" 2) (C_is_set_of : Cal P w K mg base (RXP [x0, x1, x2, x3, x4, x5, x6, x7, x8, x9, x10, x11, x12, x13, x14]) "is_set_of" 26 (List.replicate 2 false) m_is_set_of) (C_look_house : Cal P w K mg base (RXP [x0, x1, x2, x3, x4, x5, x6, x7, x8, x9, x10, x11, x12, x13, x14]) "look_house" 5 (List.replicate 1 false) m_look_house) : Cal P w K mg base (RXP [x0, x1, x2, x3, x4, x5, x6, x7, x8, x9, x10, x11, x12, x13, x14]) "is_set" 27 (List.replicate 2 false) m_is_set := by
  refine ⟨f, fd, ["house", "thing"], fn_ok (k := 26) F sc_is_set rfl rfl fun cdv A outer s H E hr => ?_, hm, F.kp, F.binds fun _ _ _ _ _ _ us hl => match us, hl with | [_, _], _ => rfl⟩
  unfold b_is_set
  exact (dss_cons (ds_drop (ps_expr (de_callC C_look_house hr (by decide) rfl (L2N.takes_of rfl rfl rfl rfl) (da_cons (de_var (pv 0)) da_nil))))
      (dss_one (ds_ret (de_callC C_is_set_of hr (by decide) rfl (L2N.takes_of rfl rfl rfl rfl) (da_cons (de_var (pv 0)) (da_cons (de_var (pv 1)) da_nil))))))
theorem ok_read_set {f : Addr} {fd : FuncData} (F : Fun K "read_set" "read_set" s_read_set f fd) (hm : mg "read_set" = some (.ref f)) (B : Bi K w mg) (XT : ETx K mg CH [x0, x1, x2, x3, x4, x5, x6, x7, x8, x9, x10, x11, x12, x13, x14]) (C__law_word : CalH P w K mg base [x0, x1, x2, x3, x4, x5, x6, x7, x8, x9, x10, x11, x12, x13, x14] "_law_word" 2) (C_is_set : Cal P w K mg base (RXP [x0, x1, x2, x3, x4, x5, x6, x7, x8, x9, x10, x11, x12, x13, x14]) "is_set" 27 (List.replicate 2 false) m_is_set) (C_read_words : Cal P w K mg base (RXP [x0, x1, x2, x3, x4, x5, x6, x7, x8, x9, x10, x11, x12, x13, x14]) "read_words" 3 (List.replicate 1 false) m_read_words) (C_look_text : Cal P w K mg base (RXP [x0, x1, x2, x3, x4, x5, x6, x7, x8, x9, x10, x11, x12, x13, x14]) "look_text" 1 (List.replicate 1 false) m_look_text) (C_look_house : Cal P w K mg base (RXP [x0, x1, x2, x3, x4, x5, x6, x7, x8, x9, x10, x11, x12, x13, x14]) "look_house" 5 (List.replicate 1 false) m_look_house) : Cal P w K mg base (RXP [x0, x1, x2, x3, x4, x5, x6, x7, x8, x9, x10, x11, x12, x13, x14]) "read_set" 28 (List.replicate 2 false) m_read_set := by
  refine ⟨f, fd, ["house", "text"], fn_ok (k := 27) F sc_read_set rfl rfl fun cdv A outer s H E hr => ?_, hm, F.kp, F.binds fun _ _ _ _ _ _ us hl => match us, hl with | [_, _], _ => rfl⟩
  unfold b_read_set
  exact (dss_cons (ds_drop (ps_expr (de_callC C_look_house hr (by decide) rfl (L2N.takes_of rfl rfl rfl rfl) (da_cons (de_var (pv 0)) da_nil))))
      (dss_cons (ds_drop (ps_expr (de_callC C_look_text hr (by decide) rfl (L2N.takes_of rfl rfl rfl rfl) (da_cons (de_var (pv 1)) da_nil))))
      (dss_cons (ds_asg (ps_asg (de_callC C_read_words hr (by decide) rfl (L2N.takes_of rfl rfl rfl rfl) (da_cons (de_meth vSplit (pe_bm PySem.F.plainAttrs_str PySem.F.slot_str_split PySem.F.type_str_split mt_split (de_var (pv 1)) (da_cons (de_k pe_str fun _ _ => .str) da_nil))) da_nil)) (dg_tup rfl (dgs_cons (dg_name (pg_name (i := 2) sc_read_set.nd rfl (by first | exact Or.inl rfl | exact Or.inr rfl)) (by decide)) (dgs_cons (dg_name (pg_name (i := 3) sc_read_set.nd rfl (by first | exact Or.inl rfl | exact Or.inr rfl)) (by decide)) dgs_nil)))))
      (dss_cons (ds_if (PW.pt (dw_or (dt_cmpV op_gtU vGt (dv_var (pv 3)) (dv_k (pe_globI (by rfl) B.c_MOST_TUPLES_texts) fun _ _ => .int) (nomark _)) (dw_or1 (dt_not (dt_val (de_callC C_is_set hr (by decide) rfl (L2N.takes_of rfl rfl rfl rfl) (da_cons (de_var (pv 0)) (da_cons (de_var (pv 2)) da_nil))))))))
      (dss_one (ds_raise (i := 10) (C := x10) XT.tab (XT.ex 10 (by decide) (by decide) _ rfl) rfl rfl rfl (L2N.takes_of rfl rfl rfl rfl) (by rfl)))
      dss_nil)
      (dss_one (ds_ret (de_mv (pv 2))))))))
theorem ok_look_set {f : Addr} {fd : FuncData} (F : Fun K "look_set" "look_set" s_look_set f fd) (hm : mg "look_set" = some (.ref f)) (B : Bi K w mg) (XT : ETx K mg CH [x0, x1, x2, x3, x4, x5, x6, x7, x8, x9, x10, x11, x12, x13, x14]) (C__law_word : CalH P w K mg base [x0, x1, x2, x3, x4, x5, x6, x7, x8, x9, x10, x11, x12, x13, x14] "_law_word" 2) (C_is_set_of : Cal P w K mg base (RXP [x0, x1, x2, x3, x4, x5, x6, x7, x8, x9, x10, x11, x12, x13, x14]) "is_set_of" 26 (List.replicate 2 false) m_is_set_of) (C_look_house : Cal P w K mg base (RXP [x0, x1, x2, x3, x4, x5, x6, x7, x8, x9, x10, x11, x12, x13, x14]) "look_house" 5 (List.replicate 1 false) m_look_house) : Cal P w K mg base (RXP [x0, x1, x2, x3, x4, x5, x6, x7, x8, x9, x10, x11, x12, x13, x14]) "look_set" 27 (List.replicate 2 false) m_look_set := by
  refine ⟨f, fd, ["house", "thing"], fn_ok (k := 26) F sc_look_set rfl rfl fun cdv A outer s H E hr => ?_, hm, F.kp, F.binds fun _ _ _ _ _ _ us hl => match us, hl with | [_, _], _ => rfl⟩
  unfold b_look_set
  exact (dss_cons (ds_drop (ps_expr (de_callC C_look_house hr (by decide) rfl (L2N.takes_of rfl rfl rfl rfl) (da_cons (de_var (pv 0)) da_nil))))
      (dss_one (ds_if (dt_not (dt_val (de_callC C_is_set_of hr (by decide) rfl (L2N.takes_of rfl rfl rfl rfl) (da_cons (de_var (pv 0)) (da_cons (de_var (pv 1)) da_nil)))))
      (dss_one (ds_raise (i := 10) (C := x10) XT.tab (XT.ex 10 (by decide) (by decide) _ rfl) rfl rfl rfl (L2N.takes_of rfl rfl rfl rfl) (by rfl)))
      dss_nil)))
theorem ok_show_row {f : Addr} {fd : FuncData} (F : Fun K "show_row" "show_row" s_show_row f fd) (hm : mg "show_row" = some (.ref f)) (B : Bi K w mg) (XT : ETx K mg CH [x0, x1, x2, x3, x4, x5, x6, x7, x8, x9, x10, x11, x12, x13, x14]) (C__law_word : CalH P w K mg base [x0, x1, x2, x3, x4, x5, x6, x7, x8, x9, x10, x11, x12, x13, x14] "_law_word" 2)  : Cal P w K mg base (RXP [x0, x1, x2, x3, x4, x5, x6, x7, x8, x9, x10, x11, x12, x13, x14]) "show_row" 1 (List.replicate 1 false) m_show_row := by
  refine ⟨f, fd, ["row"], fn_ok (k := 0) F sc_show_row rfl rfl fun cdv A outer s H E hr => ?_, hm, F.kp, F.binds fun _ _ _ _ _ _ us hl => match us, hl with | [_], _ => rfl⟩
  unfold b_show_row
  exact (dss_cons (ds_if (dt_cmpV (op_eqU (room64 hr)) vEq (dv_var (pv 0)) (dv_k pe_str fun _ _ => .str) (nomark _))
      (dss_one (ds_ret (de_k pe_str fun _ _ => .str)))
      dss_nil)
      (dss_one (ds_ret (de_mv (pv 0)))))
theorem ok_words_of_rec {f : Addr} {fd : FuncData} (F : Fun K "words_of" "words_of" s_words_of f fd) (hm : mg "words_of" = some (.ref f)) (B : Bi K w mg) (XT : ETx K mg CH [x0, x1, x2, x3, x4, x5, x6, x7, x8, x9, x10, x11, x12, x13, x14]) (C__law_word : CalH P w K mg base [x0, x1, x2, x3, x4, x5, x6, x7, x8, x9, x10, x11, x12, x13, x14] "_law_word" 2) (C_show_row : Cal P w K mg base (RXP [x0, x1, x2, x3, x4, x5, x6, x7, x8, x9, x10, x11, x12, x13, x14]) "show_row" 1 (List.replicate 1 false) m_show_row) : ∀ n, Cal P w K mg base (RXP [x0, x1, x2, x3, x4, x5, x6, x7, x8, x9, x10, x11, x12, x13, x14]) "words_of" (2 + n) (List.replicate 1 false) (r_words_of n) := by
  intro n
  induction n with
  | zero => exact ⟨f, fd, ["one"], fn_ok (k := 1) F sc_words_of rfl rfl fun cdv A outer s H E hr => dss_stk, hm, F.kp, F.binds fun _ _ _ _ _ _ us hl => match us, hl with | [_], _ => rfl⟩
  | succ n C_rec =>
    refine ⟨f, fd, ["one"], fn_ok (k := 2 + n) F sc_words_of rfl rfl fun cdv A outer s H E hr => ?_, hm, F.kp, F.binds fun _ _ _ _ _ _ us hl => match us, hl with | [_], _ => rfl⟩
    unfold b_words_of
    exact (dss_cons (ds_if (dt_cmpV (op_inU (room65 hr)) vIn (dv_ixU (room1 hr) (dv_var (pv 0)) (dv_k pe_int fun _ _ => .int) (fun _ _ => rfl)) (dv_tup (dav_cons (dv_k pe_str fun _ _ => .str) (dav_cons (dv_k pe_str fun _ _ => .str) dav_nil))) rfl)
      (dss_one (ds_ret (de_lst (da_cons (de_ofV (dv_ixU (room1 hr) (dv_var (pv 0)) (dv_k pe_int fun _ _ => .int) (fun _ _ => rfl))) (da_cons (de_callC C_show_row hr (by omega) rfl (L2N.takes_of rfl rfl rfl rfl) (da_cons (de_ofV (dv_ixU (room1 hr) (dv_var (pv 0)) (dv_k pe_int fun _ _ => .int) (fun _ _ => rfl))) da_nil)) da_nil)))))
      dss_nil)
      (dss_cons (ds_set (ps_set (i := 1) sc_words_of.nd rfl (by first | exact Or.inl rfl | exact Or.inr rfl) (de_lst (da_cons (de_ofV (dv_ixU (room1 hr) (dv_var (pv 0)) (dv_k pe_int fun _ _ => .int) (fun _ _ => rfl))) da_nil))) (by decide))
      (dss_cons (ds_for (passes_of rfl) rfl (di_tup (de_slice (de_var (pv 0)) (do_some (de_k pe_int fun _ _ => .int)) do_0)) (dg_name (pg_name (i := 2) sc_words_of.nd rfl (by first | exact Or.inl rfl | exact Or.inr rfl)) (by decide))
      (dss_one (ds_extend (ps_expr (pe_bm PySem.F.plainAttrs_list PySem.F.slot_list_extend PySem.F.type_list_extend mt_extend (pv 1) (da_cons (de_callC C_rec hr (Nat.le_refl _) rfl (L2N.takes_of rfl rfl rfl rfl) (da_cons (de_var (pv 2)) da_nil)) da_nil))))))
      (dss_one (ds_ret (de_mv (pv 1)))))))
theorem ok_words_of {f : Addr} {fd : FuncData} (F : Fun K "words_of" "words_of" s_words_of f fd) (hm : mg "words_of" = some (.ref f)) (B : Bi K w mg) (XT : ETx K mg CH [x0, x1, x2, x3, x4, x5, x6, x7, x8, x9, x10, x11, x12, x13, x14]) (C__law_word : CalH P w K mg base [x0, x1, x2, x3, x4, x5, x6, x7, x8, x9, x10, x11, x12, x13, x14] "_law_word" 2) (C_show_row : Cal P w K mg base (RXP [x0, x1, x2, x3, x4, x5, x6, x7, x8, x9, x10, x11, x12, x13, x14]) "show_row" 1 (List.replicate 1 false) m_show_row) : Cal P w K mg base (RXP [x0, x1, x2, x3, x4, x5, x6, x7, x8, x9, x10, x11, x12, x13, x14]) "words_of" 15 (List.replicate 1 false) m_words_of := ok_words_of_rec F hm B XT C__law_word C_show_row 13
theorem ok_show_set {f : Addr} {fd : FuncData} (F : Fun K "show_set" "show_set" s_show_set f fd) (hm : mg "show_set" = some (.ref f)) (B : Bi K w mg) (XT : ETx K mg CH [x0, x1, x2, x3, x4, x5, x6, x7, x8, x9, x10, x11, x12, x13, x14]) (C__law_word : CalH P w K mg base [x0, x1, x2, x3, x4, x5, x6, x7, x8, x9, x10, x11, x12, x13, x14] "_law_word" 2) (C_words_of : Cal P w K mg base (RXP [x0, x1, x2, x3, x4, x5, x6, x7, x8, x9, x10, x11, x12, x13, x14]) "words_of" 15 (List.replicate 1 false) m_words_of) (C_look_set : Cal P w K mg base (RXP [x0, x1, x2, x3, x4, x5, x6, x7, x8, x9, x10, x11, x12, x13, x14]) "look_set" 27 (List.replicate 2 false) m_look_set) (C_look_house : Cal P w K mg base (RXP [x0, x1, x2, x3, x4, x5, x6, x7, x8, x9, x10, x11, x12, x13, x14]) "look_house" 5 (List.replicate 1 false) m_look_house) : Cal P w K mg base (RXP [x0, x1, x2, x3, x4, x5, x6, x7, x8, x9, x10, x11, x12, x13, x14]) "show_set" 28 (List.replicate 2 false) m_show_set := by
  refine ⟨f, fd, ["house", "one"], fn_ok (k := 27) F sc_show_set rfl rfl fun cdv A outer s H E hr => ?_, hm, F.kp, F.binds fun _ _ _ _ _ _ us hl => match us, hl with | [_, _], _ => rfl⟩
  unfold b_show_set
  exact (dss_cons (ds_drop (ps_expr (de_callC C_look_house hr (by decide) rfl (L2N.takes_of rfl rfl rfl rfl) (da_cons (de_var (pv 0)) da_nil))))
      (dss_cons (ds_drop (ps_expr (de_callC C_look_set hr (by decide) rfl (L2N.takes_of rfl rfl rfl rfl) (da_cons (de_var (pv 0)) (da_cons (de_var (pv 1)) da_nil)))))
      (dss_one (ds_ret (de_join (pe_join (de_k pe_str fun _ _ => .str) (de_callC C_words_of hr (by decide) rfl (L2N.takes_of rfl rfl rfl rfl) (da_cons (de_var (pv 1)) da_nil))))))))
theorem ok_law_fn {f cT PT : Addr} {oc : Value} {od an : Option Addr} {kV doc pm ct : Value} {osl : Array (Option Value)} (lk : K.lookup f = some ⟨oc, od, .func (PySem.W.fnOf "law" "law" (defArgs s_law) (defBody s_law) (defScope s_law) .none kV doc pm an (.ref cT) ct), osl⟩) (hcd : PySem.W.codeIn K (.ref cT) "law" = true) (TB : LamX.TabB base mg cT PT) (hT : TabC.T = [(PT, ("law" : Str) ++ ".<locals>." ++ "<lambda>")]) (B : Bi K w mg) (XT : ETx K mg CH [x0, x1, x2, x3, x4, x5, x6, x7, x8, x9, x10, x11, x12, x13, x14]) (C__law_word : CalH P w K mg base [x0, x1, x2, x3, x4, x5, x6, x7, x8, x9, x10, x11, x12, x13, x14] "_law_word" 2) (C_show_set : Cal P w K mg base (RXP [x0, x1, x2, x3, x4, x5, x6, x7, x8, x9, x10, x11, x12, x13, x14]) "show_set" 28 (List.replicate 2 false) m_show_set) (C__law_no_house : Cal P w K mg base (RXP [x0, x1, x2, x3, x4, x5, x6, x7, x8, x9, x10, x11, x12, x13, x14]) "_law_no_house" 2 (true :: List.replicate 1 false) m__law_no_house) (C__law_no_set : Cal P w K mg base (RXP [x0, x1, x2, x3, x4, x5, x6, x7, x8, x9, x10, x11, x12, x13, x14]) "_law_no_set" 3 (true :: List.replicate 2 false) m__law_no_set) (C__law_same_set : Cal P w K mg base (RXP [x0, x1, x2, x3, x4, x5, x6, x7, x8, x9, x10, x11, x12, x13, x14]) "_law_same_set" 15 (List.replicate 2 false) m__law_same_set) (C_read_set : Cal P w K mg base (RXP [x0, x1, x2, x3, x4, x5, x6, x7, x8, x9, x10, x11, x12, x13, x14]) "read_set" 28 (List.replicate 2 false) m_read_set) (C__law_deep : Cal P w K mg base (RXP [x0, x1, x2, x3, x4, x5, x6, x7, x8, x9, x10, x11, x12, x13, x14]) "_law_deep" 1 (List.replicate 2 false) m__law_deep) (C__law_same : Cal P w K mg base (RXP [x0, x1, x2, x3, x4, x5, x6, x7, x8, x9, x10, x11, x12, x13, x14]) "_law_same" 8 (List.replicate 2 false) m__law_same) (C__law_set_words : Cal P w K mg base (RXP [x0, x1, x2, x3, x4, x5, x6, x7, x8, x9, x10, x11, x12, x13, x14]) "_law_set_words" 15 (List.replicate 1 false) m__law_set_words) (C__law_set : Cal P w K mg base (RXP [x0, x1, x2, x3, x4, x5, x6, x7, x8, x9, x10, x11, x12, x13, x14]) "_law_set" 15 (true :: List.replicate 3 false) m__law_set) (C__law_take : Cal P w K mg base (RXP [x0, x1, x2, x3, x4, x5, x6, x7, x8, x9, x10, x11, x12, x13, x14]) "_law_take" 1 (true :: List.replicate 1 false) m__law_take) (C__law_house_copy : Cal P w K mg base (RXP [x0, x1, x2, x3, x4, x5, x6, x7, x8, x9, x10, x11, x12, x13, x14]) "_law_house_copy" 1 (List.replicate 1 false) m__law_house_copy) (C__law_house : Cal P w K mg base (RXP [x0, x1, x2, x3, x4, x5, x6, x7, x8, x9, x10, x11, x12, x13, x14]) "_law_house" 2 (true :: List.replicate 0 false) m__law_house) (C__law_bag : Cal P w K mg base (RXP [x0, x1, x2, x3, x4, x5, x6, x7, x8, x9, x10, x11, x12, x13, x14]) "_law_bag" 1 (List.replicate 1 false) m__law_bag) (C__law_cell : Cal P w K mg base (RXP [x0, x1, x2, x3, x4, x5, x6, x7, x8, x9, x10, x11, x12, x13, x14]) "_law_cell" 1 (List.replicate 2 false) m__law_cell) (C__law_answer : Ans P w K mg base [x0, x1, x2, x3, x4, x5, x6, x7, x8, x9, x10, x11, x12, x13, x14] "_law_answer") (C__law_refuses : Ref P w K mg base [x0, x1, x2, x3, x4, x5, x6, x7, x8, x9, x10, x11, x12, x13, x14] "_law_refuses") : FnOk P w K mg base (L2N.CX P w) 32 f (PySem.W.fnOf "law" "law" (defArgs s_law) (defBody s_law) (defScope s_law) .none kV doc pm an (.ref cT) ct) ["_law_script"] (spD K (RXP [x0, x1, x2, x3, x4, x5, x6, x7, x8, x9, x10, x11, x12, x13, x14]) (List.replicate 1 false) m_law) := by
  refine fn_okL (k := 31) lk hcd sc_law rfl rfl fun A outer s H E hr => ?_
  unfold b_law
  exact (dss_cons (ds_for (passes_of rfl) rfl (di_range1 (by rfl) B.range (da_cons (de_ofV (dv_callB (pe_callB (call_max2 rfl) (by rfl) B.max boot_max (dav_cons (dv_k pe_int fun _ _ => .int) (dav_cons (dv_callB (pe_callB (call_min2 rfl) (by rfl) B.min boot_min (dav_cons (dv_callB (pe_callB call_lenU (by rfl) B.len boot_len (dav_cons (dv_var (pv 0)) dav_nil)) vLen) (dav_cons (dv_k pe_int fun _ _ => .int) dav_nil))) vMin2) dav_nil))) vMax2)) da_nil)) (dg_name (pg_name (i := 1) sc_law.nd rfl (by first | exact Or.inl rfl | exact Or.inr rfl)) (by decide))
      (dss_cons (ds_set (ps_set (i := 2) sc_law.nd rfl (by first | exact Or.inl rfl | exact Or.inr rfl) (de_callC C__law_bag hr (by decide) rfl (L2N.takes_of rfl rfl rfl rfl) (da_cons (de_opEV op_addU vAdd (de_callC C__law_cell hr (by decide) rfl (L2N.takes_of rfl rfl rfl rfl) (da_cons (de_var (pv 0)) (da_cons (de_var (pv 1)) da_nil))) (dv_var (pv 1))) da_nil))) (by decide))
      (dss_cons (ds_set (ps_set (i := 3) sc_law.nd rfl (by first | exact Or.inl rfl | exact Or.inr rfl) (de_callIOC C__law_house hr (by decide) rfl (L2N.takes_of rfl rfl rfl rfl) (pv 2) da_nil)) (by decide))
      (dss_cons (ds_set (ps_set (i := 4) sc_law.nd rfl (by first | exact Or.inl rfl | exact Or.inr rfl) (de_callC C__law_house_copy hr (by decide) rfl (L2N.takes_of rfl rfl rfl rfl) (da_cons (de_var (pv 3)) da_nil))) (by decide))
      (dss_cons (ds_set (ps_set (i := 5) sc_law.nd rfl (by first | exact Or.inl rfl | exact Or.inr rfl) (de_callIOC C__law_set hr (by decide) rfl (L2N.takes_of rfl rfl rfl rfl) (pv 2) (da_cons (de_var (pv 3)) (da_cons (de_op op_addU vAdd (de_k pe_int fun _ _ => .int) (de_callIOC C__law_take hr (by decide) rfl (L2N.takes_of rfl rfl rfl rfl) (pv 2) (da_cons (de_k pe_int fun _ _ => .int) da_nil))) (da_cons (de_op op_addU vAdd (de_k pe_int fun _ _ => .int) (de_callIOC C__law_take hr (by decide) rfl (L2N.takes_of rfl rfl rfl rfl) (pv 2) (da_cons (de_k pe_int fun _ _ => .int) da_nil))) da_nil))))) (by decide))
      (dss_cons (ds_set (ps_set (i := 6) sc_law.nd rfl (by first | exact Or.inl rfl | exact Or.inr rfl) (de_join (pe_join (de_k pe_str fun _ _ => .str) (de_callC C__law_set_words hr (by decide) rfl (L2N.takes_of rfl rfl rfl rfl) (da_cons (de_var (pv 5)) da_nil))))) (by decide))
      (dss_cons (ds_if (PW.pt (dw_or (dt_not (dt_val (de_callC C__law_same hr (by decide) rfl (L2N.takes_of rfl rfl rfl rfl) (da_cons (de_callC C_show_set hr (by decide) rfl (L2N.takes_of rfl rfl rfl rfl) (da_cons (de_var (pv 4)) (da_cons (de_var (pv 5)) da_nil))) (da_cons (de_var (pv 6)) da_nil))))) (dw_or1 (dt_not (dt_val (de_callC C__law_same_set hr (by decide) rfl (L2N.takes_of rfl rfl rfl rfl) (da_cons (de_callC C_read_set hr (by decide) rfl (L2N.takes_of rfl rfl rfl rfl) (da_cons (de_var (pv 4)) (da_cons (de_var (pv 6)) da_nil))) (da_cons (de_var (pv 5)) da_nil))))))))
      (dss_one (ds_ret (de_k pe_bl fun _ _ => .bl)))
      dss_nil)
      (dss_cons (ds_set (ps_set (i := 7) sc_law.nd rfl (by first | exact Or.inl rfl | exact Or.inr rfl) (de_callC C__law_deep hr (by decide) rfl (L2N.takes_of rfl rfl rfl rfl) (da_cons (de_tup (da_cons (de_k pe_str fun _ _ => .str) (da_cons (de_ofV (dv_op op_mulTI vMulX (dv_ixU (room1 hr) (dv_ixU (room1 hr) (dv_ixU (room1 hr) (dv_var (pv 3)) (dv_k pe_int fun _ _ => .int) (fun _ _ => rfl)) (dv_k pe_int fun _ _ => .int) (fun _ _ => rfl)) (dv_k pe_int fun _ _ => .int) (fun _ _ => rfl)) (dv_k pe_int fun _ _ => .int))) da_nil))) (da_cons (de_k pe_int fun _ _ => .int) da_nil)))) (by decide))
      (dss_cons (ds_if (dt_not (dt_val (de_callC C__law_same_set hr (by decide) rfl (L2N.takes_of rfl rfl rfl rfl) (da_cons (de_callC C_read_set hr (by decide) rfl (L2N.takes_of rfl rfl rfl rfl) (da_cons (de_var (pv 4)) (da_cons (de_callC C_show_set hr (by decide) rfl (L2N.takes_of rfl rfl rfl rfl) (da_cons (de_var (pv 4)) (da_cons (de_var (pv 7)) da_nil))) da_nil))) (da_cons (de_var (pv 7)) da_nil)))))
      (dss_one (ds_ret (de_k pe_bl fun _ _ => .bl)))
      dss_nil)
      (dss_cons (ds_set (ps_set (i := 8) sc_law.nd rfl (by first | exact Or.inl rfl | exact Or.inr rfl) (de_callIOC C__law_no_set hr (by decide) rfl (L2N.takes_of rfl rfl rfl rfl) (pv 2) (da_cons (de_var (pv 3)) (da_cons (de_var (pv 5)) da_nil)))) (by decide))
      (dss_cons (ds_if (dt_not (dt_val (de_ref (k := 29) (k0 := 28) C__law_refuses XT.tab hr (by decide) (by decide) (by rfl) TB rfl hT (LamX.lamS_by (by kernel_rfl)) rfl (fun _ _ _ _ _ => rfl) (fun A outer s H E f c_ hr => (de_callC C_show_set hr (by decide) rfl (L2N.takes_of rfl rfl rfl rfl) (da_cons (de_var (pv 4)) (da_cons (de_var (pv 8)) da_nil)))))))
      (dss_one (ds_ret (de_k pe_bl fun _ _ => .bl)))
      dss_nil)
      (dss_cons (ds_set (ps_set (i := 9) sc_law.nd rfl (by first | exact Or.inl rfl | exact Or.inr rfl) (de_callIOC C__law_no_house hr (by decide) rfl (L2N.takes_of rfl rfl rfl rfl) (pv 2) (da_cons (de_var (pv 3)) da_nil))) (by decide))
      (dss_cons (ds_if (dt_not (dt_val (de_ref (k := 29) (k0 := 28) C__law_refuses XT.tab hr (by decide) (by decide) (by rfl) TB rfl hT (LamX.lamS_by (by kernel_rfl)) rfl (fun _ _ _ _ _ => rfl) (fun A outer s H E f c_ hr => (de_callC C_show_set hr (by decide) rfl (L2N.takes_of rfl rfl rfl rfl) (da_cons (de_var (pv 9)) (da_cons (de_var (pv 8)) da_nil)))))))
      (dss_one (ds_ret (de_k pe_bl fun _ _ => .bl)))
      dss_nil)
      (dss_one (ds_if (dt_cmpV (op_neU (room64 hr)) vNe (dv_var (pv 4)) (dv_var (pv 3)) (nomark _))
      (dss_one (ds_ret (de_k pe_bl fun _ _ => .bl)))
      dss_nil)))))))))))))))
      (dss_one (ds_ret (de_k pe_bl fun _ _ => .bl))))
end
set_option maxHeartbeats 4000000 in
theorem all_mk {P : Program} {w : World} {K : PySem.W.Frag} {h : Heap} {mg : Str → Option Value} {fa f0 f1 f2 f3 f4 f5 f6 f7 f8 f9 f10 f11 f12 f13 f14 f15 f16 f17 f18 f19 f20 f21 f22 f23 f24 f25 f26 f27 f28 f29 f30 f31 f32 f33 f34 f35 f36 f37 f38 f39 : Addr} (X : K.In h) (G : h.Ns mainGlobals mg) (hfa : mg "law" = some (.ref fa)) {od0 od1 od2 od3 od4 od5 od6 od7 od8 od9 od10 od11 od12 od13 od14 od15 od16 od17 od18 od19 od20 od21 od22 od23 od24 od25 od26 od27 od28 od29 od30 od31 od32 od33 od34 od35 od36 od37 od38 od39 an0 an1 an2 an3 an4 an5 an6 an7 an8 an9 an10 an11 an12 an13 an14 an15 an16 an17 an18 an19 an20 an21 an22 an23 an24 an25 an26 an27 an28 an29 an30 an31 an32 an33 an34 an35 an36 an37 an38 an39 : Option Addr} {sl0 sl1 sl2 sl3 sl4 sl5 sl6 sl7 sl8 sl9 sl10 sl11 sl12 sl13 sl14 sl15 sl16 sl17 sl18 sl19 sl20 sl21 sl22 sl23 sl24 sl25 sl26 sl27 sl28 sl29 sl30 sl31 sl32 sl33 sl34 sl35 sl36 sl37 sl38 sl39 : Array (Option Value)} {oc0 oc1 oc2 oc3 oc4 oc5 oc6 oc7 oc8 oc9 oc10 oc11 oc12 oc13 oc14 oc15 oc16 oc17 oc18 oc19 oc20 oc21 oc22 oc23 oc24 oc25 oc26 oc27 oc28 oc29 oc30 oc31 oc32 oc33 oc34 oc35 oc36 oc37 oc38 oc39 kV0 kV1 kV2 kV3 kV4 kV5 kV6 kV7 kV8 kV9 kV10 kV11 kV12 kV13 kV14 kV15 kV16 kV17 kV18 kV19 kV20 kV21 kV22 kV23 kV24 kV25 kV26 kV27 kV28 kV29 kV30 kV31 kV32 kV33 kV34 kV35 kV36 kV37 kV38 kV39 dc0 dc1 dc2 dc3 dc4 dc5 dc6 dc7 dc8 dc9 dc10 dc11 dc12 dc13 dc14 dc15 dc16 dc17 dc18 dc19 dc20 dc21 dc22 dc23 dc24 dc25 dc26 dc27 dc28 dc29 dc30 dc31 dc32 dc33 dc34 dc35 dc36 dc37 dc38 dc39 pm0 pm1 pm2 pm3 pm4 pm5 pm6 pm7 pm8 pm9 pm10 pm11 pm12 pm13 pm14 pm15 pm16 pm17 pm18 pm19 pm20 pm21 pm22 pm23 pm24 pm25 pm26 pm27 pm28 pm29 pm30 pm31 pm32 pm33 pm34 pm35 pm36 pm37 pm38 pm39 cd0 cd1 cd2 cd3 cd4 cd5 cd6 cd7 cd8 cd9 cd10 cd11 cd12 cd13 cd14 cd15 cd16 cd17 cd18 cd19 cd20 cd21 cd22 cd23 cd24 cd25 cd26 cd27 cd28 cd29 cd30 cd31 cd32 cd33 cd34 cd35 cd37 cd38 cd39 ct0 ct1 ct2 ct3 ct4 ct5 ct6 ct7 ct8 ct9 ct10 ct11 ct12 ct13 ct14 ct15 ct16 ct17 ct18 ct19 ct20 ct21 ct22 ct23 ct24 ct25 ct26 ct27 ct28 ct29 ct30 ct31 ct32 ct33 ct34 ct35 ct36 ct37 ct38 ct39 : Value} {CH x0 x1 x2 x3 x4 x5 x6 x7 x8 x9 x10 x11 x12 x13 x14 : Addr} {yH y0 y1 y2 y3 y4 y5 y6 y7 y8 y9 y10 y11 y12 y13 y14 : ClassData} {cT PT : Addr} {qC : Value} {dC : Option Addr} {vC : Array Value} {sC : Array (Option Value)} {t_LETTERS_houses t_FEWEST_HANDS t_MOST_HANDS t_MOST_LETTERS_houses t_MOST_LETTERS_sets t_MOST_ROWS t_MOST_TUPLES_sets t_LETTERS_texts t_MOST_TUPLES_texts u_PARTS_0 u_PARTS_1 u_PARTS_2 u_PARTS_3 u_PARTS_4 u_PARTS_5 v_PARTS_0_0 v_PARTS_0_1 v_PARTS_1_0 v_PARTS_1_1 v_PARTS_2_0 v_PARTS_2_1 v_PARTS_3_0 v_PARTS_3_1 v_PARTS_4_0 v_PARTS_4_1 v_PARTS_5_0 v_PARTS_5_1 u_WITH_ROW_0 u_WITH_ROW_1 u_WITH_ONE_0 u_WITH_TWO_0 u_WITH_TWO_1 u_WITH_TWO_2 : Tok} {ga_WITH_ROW : Addr} {gd_WITH_ROW : Option Addr} {gn_WITH_ROW : Nat} {gs_WITH_ROW : Array (Option Value)} {ga_WITH_ONE : Addr} {gd_WITH_ONE : Option Addr} {gn_WITH_ONE : Nat} {gs_WITH_ONE : Array (Option Value)} {ga_WITH_TWO : Addr} {gd_WITH_TWO : Option Addr} {gn_WITH_TWO : Nat} {gs_WITH_TWO : Array (Option Value)} {ga_PARTS : Addr} {gn_PARTS : Nat} {gb_PARTS_0 : Addr} {gd_PARTS_0 : Option Addr} {gn_PARTS_0 : Nat} {gs_PARTS_0 : Array (Option Value)} {gb_PARTS_1 : Addr} {gd_PARTS_1 : Option Addr} {gn_PARTS_1 : Nat} {gs_PARTS_1 : Array (Option Value)} {gb_PARTS_2 : Addr} {gd_PARTS_2 : Option Addr} {gn_PARTS_2 : Nat} {gs_PARTS_2 : Array (Option Value)} {gb_PARTS_3 : Addr} {gd_PARTS_3 : Option Addr} {gn_PARTS_3 : Nat} {gs_PARTS_3 : Array (Option Value)} {gb_PARTS_4 : Addr} {gd_PARTS_4 : Option Addr} {gn_PARTS_4 : Nat} {gs_PARTS_4 : Array (Option Value)} {gb_PARTS_5 : Addr} {gd_PARTS_5 : Option Addr} {gn_PARTS_5 : Nat} {gs_PARTS_5 : Array (Option Value)} 
    (a0 : PySem.W.nsIn K mainGlobals "_law_bag" = some (some (.ref f0))) (l0 : K.lookup f0 = some ⟨oc0, od0, .func (PySem.W.fnOf "_law_bag" "_law_bag" (defArgs s__law_bag) (defBody s__law_bag) (defScope s__law_bag) .none kV0 dc0 pm0 an0 cd0 ct0), sl0⟩) (c0 : PySem.W.codeIn K cd0 "_law_bag" = true) (k0 : PySem.W.keepIn K (.ref f0) = true)
    (a1 : PySem.W.nsIn K mainGlobals "_law_take" = some (some (.ref f1))) (l1 : K.lookup f1 = some ⟨oc1, od1, .func (PySem.W.fnOf "_law_take" "_law_take" (defArgs s__law_take) (defBody s__law_take) (defScope s__law_take) .none kV1 dc1 pm1 an1 cd1 ct1), sl1⟩) (c1 : PySem.W.codeIn K cd1 "_law_take" = true) (k1 : PySem.W.keepIn K (.ref f1) = true)
    (a2 : PySem.W.nsIn K mainGlobals "_law_house" = some (some (.ref f2))) (l2 : K.lookup f2 = some ⟨oc2, od2, .func (PySem.W.fnOf "_law_house" "_law_house" (defArgs s__law_house) (defBody s__law_house) (defScope s__law_house) .none kV2 dc2 pm2 an2 cd2 ct2), sl2⟩) (c2 : PySem.W.codeIn K cd2 "_law_house" = true) (k2 : PySem.W.keepIn K (.ref f2) = true)
    (a3 : PySem.W.nsIn K mainGlobals "_law_house_copy" = some (some (.ref f3))) (l3 : K.lookup f3 = some ⟨oc3, od3, .func (PySem.W.fnOf "_law_house_copy" "_law_house_copy" (defArgs s__law_house_copy) (defBody s__law_house_copy) (defScope s__law_house_copy) .none kV3 dc3 pm3 an3 cd3 ct3), sl3⟩) (c3 : PySem.W.codeIn K cd3 "_law_house_copy" = true) (k3 : PySem.W.keepIn K (.ref f3) = true)
    (a4 : PySem.W.nsIn K mainGlobals "_law_set" = some (some (.ref f4))) (l4 : K.lookup f4 = some ⟨oc4, od4, .func (PySem.W.fnOf "_law_set" "_law_set" (defArgs s__law_set) (defBody s__law_set) (defScope s__law_set) .none kV4 dc4 pm4 an4 cd4 ct4), sl4⟩) (c4 : PySem.W.codeIn K cd4 "_law_set" = true) (k4 : PySem.W.keepIn K (.ref f4) = true)
    (a5 : PySem.W.nsIn K mainGlobals "_law_deep" = some (some (.ref f5))) (l5 : K.lookup f5 = some ⟨oc5, od5, .func (PySem.W.fnOf "_law_deep" "_law_deep" (defArgs s__law_deep) (defBody s__law_deep) (defScope s__law_deep) .none kV5 dc5 pm5 an5 cd5 ct5), sl5⟩) (c5 : PySem.W.codeIn K cd5 "_law_deep" = true) (k5 : PySem.W.keepIn K (.ref f5) = true)
    (a6 : PySem.W.nsIn K mainGlobals "_law_thirteen" = some (some (.ref f6))) (l6 : K.lookup f6 = some ⟨oc6, od6, .func (PySem.W.fnOf "_law_thirteen" "_law_thirteen" (defArgs s__law_thirteen) (defBody s__law_thirteen) (defScope s__law_thirteen) .none kV6 dc6 pm6 an6 cd6 ct6), sl6⟩) (c6 : PySem.W.codeIn K cd6 "_law_thirteen" = true) (k6 : PySem.W.keepIn K (.ref f6) = true)
    (a7 : PySem.W.nsIn K mainGlobals "_law_no_set" = some (some (.ref f7))) (l7 : K.lookup f7 = some ⟨oc7, od7, .func (PySem.W.fnOf "_law_no_set" "_law_no_set" (defArgs s__law_no_set) (defBody s__law_no_set) (defScope s__law_no_set) .none kV7 dc7 pm7 an7 cd7 ct7), sl7⟩) (c7 : PySem.W.codeIn K cd7 "_law_no_set" = true) (k7 : PySem.W.keepIn K (.ref f7) = true)
    (a8 : PySem.W.nsIn K mainGlobals "_law_no_house" = some (some (.ref f8))) (l8 : K.lookup f8 = some ⟨oc8, od8, .func (PySem.W.fnOf "_law_no_house" "_law_no_house" (defArgs s__law_no_house) (defBody s__law_no_house) (defScope s__law_no_house) .none kV8 dc8 pm8 an8 cd8 ct8), sl8⟩) (c8 : PySem.W.codeIn K cd8 "_law_no_house" = true) (k8 : PySem.W.keepIn K (.ref f8) = true)
    (a9 : PySem.W.nsIn K mainGlobals "_law_row_word" = some (some (.ref f9))) (l9 : K.lookup f9 = some ⟨oc9, od9, .func (PySem.W.fnOf "_law_row_word" "_law_row_word" (defArgs s__law_row_word) (defBody s__law_row_word) (defScope s__law_row_word) .none kV9 dc9 pm9 an9 cd9 ct9), sl9⟩) (c9 : PySem.W.codeIn K cd9 "_law_row_word" = true) (k9 : PySem.W.keepIn K (.ref f9) = true)
    (a10 : PySem.W.nsIn K mainGlobals "_law_set_words" = some (some (.ref f10))) (l10 : K.lookup f10 = some ⟨oc10, od10, .func (PySem.W.fnOf "_law_set_words" "_law_set_words" (defArgs s__law_set_words) (defBody s__law_set_words) (defScope s__law_set_words) .none kV10 dc10 pm10 an10 cd10 ct10), sl10⟩) (c10 : PySem.W.codeIn K cd10 "_law_set_words" = true) (k10 : PySem.W.keepIn K (.ref f10) = true)
    (a11 : PySem.W.nsIn K mainGlobals "_law_same_set" = some (some (.ref f11))) (l11 : K.lookup f11 = some ⟨oc11, od11, .func (PySem.W.fnOf "_law_same_set" "_law_same_set" (defArgs s__law_same_set) (defBody s__law_same_set) (defScope s__law_same_set) .none kV11 dc11 pm11 an11 cd11 ct11), sl11⟩) (c11 : PySem.W.codeIn K cd11 "_law_same_set" = true) (k11 : PySem.W.keepIn K (.ref f11) = true)
    (a12 : PySem.W.nsIn K mainGlobals "_law_cell" = some (some (.ref f12))) (l12 : K.lookup f12 = some ⟨oc12, od12, .func (PySem.W.fnOf "_law_cell" "_law_cell" (defArgs s__law_cell) (defBody s__law_cell) (defScope s__law_cell) .none kV12 dc12 pm12 an12 cd12 ct12), sl12⟩) (c12 : PySem.W.codeIn K cd12 "_law_cell" = true) (k12 : PySem.W.keepIn K (.ref f12) = true)
    (a13 : PySem.W.nsIn K mainGlobals "_law_whole" = some (some (.ref f13))) (l13 : K.lookup f13 = some ⟨oc13, od13, .func (PySem.W.fnOf "_law_whole" "_law_whole" (defArgs s__law_whole) (defBody s__law_whole) (defScope s__law_whole) .none kV13 dc13 pm13 an13 cd13 ct13), sl13⟩) (c13 : PySem.W.codeIn K cd13 "_law_whole" = true) (k13 : PySem.W.keepIn K (.ref f13) = true)
    (a14 : PySem.W.nsIn K mainGlobals "_law_same" = some (some (.ref f14))) (l14 : K.lookup f14 = some ⟨oc14, od14, .func (PySem.W.fnOf "_law_same" "_law_same" (defArgs s__law_same) (defBody s__law_same) (defScope s__law_same) .none kV14 dc14 pm14 an14 cd14 ct14), sl14⟩) (c14 : PySem.W.codeIn K cd14 "_law_same" = true) (k14 : PySem.W.keepIn K (.ref f14) = true)
    (a15 : PySem.W.nsIn K mainGlobals "is_whole" = some (some (.ref f15))) (l15 : K.lookup f15 = some ⟨oc15, od15, .func (PySem.W.fnOf "is_whole" "is_whole" (defArgs s_is_whole) (defBody s_is_whole) (defScope s_is_whole) .none kV15 dc15 pm15 an15 cd15 ct15), sl15⟩) (c15 : PySem.W.codeIn K cd15 "is_whole" = true) (k15 : PySem.W.keepIn K (.ref f15) = true)
    (a16 : PySem.W.nsIn K mainGlobals "is_sign" = some (some (.ref f16))) (l16 : K.lookup f16 = some ⟨oc16, od16, .func (PySem.W.fnOf "is_sign" "is_sign" (defArgs s_is_sign) (defBody s_is_sign) (defScope s_is_sign) .none kV16 dc16 pm16 an16 cd16 ct16), sl16⟩) (c16 : PySem.W.codeIn K cd16 "is_sign" = true) (k16 : PySem.W.keepIn K (.ref f16) = true)
    (a17 : PySem.W.nsIn K mainGlobals "is_rising" = some (some (.ref f17))) (l17 : K.lookup f17 = some ⟨oc17, od17, .func (PySem.W.fnOf "is_rising" "is_rising" (defArgs s_is_rising) (defBody s_is_rising) (defScope s_is_rising) .none kV17 dc17 pm17 an17 cd17 ct17), sl17⟩) (c17 : PySem.W.codeIn K cd17 "is_rising" = true) (k17 : PySem.W.keepIn K (.ref f17) = true)
    (a18 : PySem.W.nsIn K mainGlobals "is_entry" = some (some (.ref f18))) (l18 : K.lookup f18 = some ⟨oc18, od18, .func (PySem.W.fnOf "is_entry" "is_entry" (defArgs s_is_entry) (defBody s_is_entry) (defScope s_is_entry) .none kV18 dc18 pm18 an18 cd18 ct18), sl18⟩) (c18 : PySem.W.codeIn K cd18 "is_entry" = true) (k18 : PySem.W.keepIn K (.ref f18) = true)
    (a19 : PySem.W.nsIn K mainGlobals "is_house" = some (some (.ref f19))) (l19 : K.lookup f19 = some ⟨oc19, od19, .func (PySem.W.fnOf "is_house" "is_house" (defArgs s_is_house) (defBody s_is_house) (defScope s_is_house) .none kV19 dc19 pm19 an19 cd19 ct19), sl19⟩) (c19 : PySem.W.codeIn K cd19 "is_house" = true) (k19 : PySem.W.keepIn K (.ref f19) = true)
    (a20 : PySem.W.nsIn K mainGlobals "look_house" = some (some (.ref f20))) (l20 : K.lookup f20 = some ⟨oc20, od20, .func (PySem.W.fnOf "look_house" "look_house" (defArgs s_look_house) (defBody s_look_house) (defScope s_look_house) .none kV20 dc20 pm20 an20 cd20 ct20), sl20⟩) (c20 : PySem.W.codeIn K cd20 "look_house" = true) (k20 : PySem.W.keepIn K (.ref f20) = true)
    (a21 : PySem.W.nsIn K mainGlobals "look_text" = some (some (.ref f21))) (l21 : K.lookup f21 = some ⟨oc21, od21, .func (PySem.W.fnOf "look_text" "look_text" (defArgs s_look_text) (defBody s_look_text) (defScope s_look_text) .none kV21 dc21 pm21 an21 cd21 ct21), sl21⟩) (c21 : PySem.W.codeIn K cd21 "look_text" = true) (k21 : PySem.W.keepIn K (.ref f21) = true)
    (a22 : PySem.W.nsIn K mainGlobals "read_row" = some (some (.ref f22))) (l22 : K.lookup f22 = some ⟨oc22, od22, .func (PySem.W.fnOf "read_row" "read_row" (defArgs s_read_row) (defBody s_read_row) (defScope s_read_row) .none kV22 dc22 pm22 an22 cd22 ct22), sl22⟩) (c22 : PySem.W.codeIn K cd22 "read_row" = true) (k22 : PySem.W.keepIn K (.ref f22) = true)
    (a23 : PySem.W.nsIn K mainGlobals "read_first" = some (some (.ref f23))) (l23 : K.lookup f23 = some ⟨oc23, od23, .func (PySem.W.fnOf "read_first" "read_first" (defArgs s_read_first) (defBody s_read_first) (defScope s_read_first) .none kV23 dc23 pm23 an23 cd23 ct23), sl23⟩) (c23 : PySem.W.codeIn K cd23 "read_first" = true) (k23 : PySem.W.keepIn K (.ref f23) = true)
    (a24 : PySem.W.nsIn K mainGlobals "is_done" = some (some (.ref f24))) (l24 : K.lookup f24 = some ⟨oc24, od24, .func (PySem.W.fnOf "is_done" "is_done" (defArgs s_is_done) (defBody s_is_done) (defScope s_is_done) .none kV24 dc24 pm24 an24 cd24 ct24), sl24⟩) (c24 : PySem.W.codeIn K cd24 "is_done" = true) (k24 : PySem.W.keepIn K (.ref f24) = true)
    (a25 : PySem.W.nsIn K mainGlobals "read_words" = some (some (.ref f25))) (l25 : K.lookup f25 = some ⟨oc25, od25, .func (PySem.W.fnOf "read_words" "read_words" (defArgs s_read_words) (defBody s_read_words) (defScope s_read_words) .none kV25 dc25 pm25 an25 cd25 ct25), sl25⟩) (c25 : PySem.W.codeIn K cd25 "read_words" = true) (k25 : PySem.W.keepIn K (.ref f25) = true)
    (a26 : PySem.W.nsIn K mainGlobals "letters_of" = some (some (.ref f26))) (l26 : K.lookup f26 = some ⟨oc26, od26, .func (PySem.W.fnOf "letters_of" "letters_of" (defArgs s_letters_of) (defBody s_letters_of) (defScope s_letters_of) .none kV26 dc26 pm26 an26 cd26 ct26), sl26⟩) (c26 : PySem.W.codeIn K cd26 "letters_of" = true) (k26 : PySem.W.keepIn K (.ref f26) = true)
    (a27 : PySem.W.nsIn K mainGlobals "is_row" = some (some (.ref f27))) (l27 : K.lookup f27 = some ⟨oc27, od27, .func (PySem.W.fnOf "is_row" "is_row" (defArgs s_is_row) (defBody s_is_row) (defScope s_is_row) .none kV27 dc27 pm27 an27 cd27 ct27), sl27⟩) (c27 : PySem.W.codeIn K cd27 "is_row" = true) (k27 : PySem.W.keepIn K (.ref f27) = true)
    (a28 : PySem.W.nsIn K mainGlobals "tuples_in" = some (some (.ref f28))) (l28 : K.lookup f28 = some ⟨oc28, od28, .func (PySem.W.fnOf "tuples_in" "tuples_in" (defArgs s_tuples_in) (defBody s_tuples_in) (defScope s_tuples_in) .none kV28 dc28 pm28 an28 cd28 ct28), sl28⟩) (c28 : PySem.W.codeIn K cd28 "tuples_in" = true) (k28 : PySem.W.keepIn K (.ref f28) = true)
    (a29 : PySem.W.nsIn K mainGlobals "is_set_of" = some (some (.ref f29))) (l29 : K.lookup f29 = some ⟨oc29, od29, .func (PySem.W.fnOf "is_set_of" "is_set_of" (defArgs s_is_set_of) (defBody s_is_set_of) (defScope s_is_set_of) .none kV29 dc29 pm29 an29 cd29 ct29), sl29⟩) (c29 : PySem.W.codeIn K cd29 "is_set_of" = true) (k29 : PySem.W.keepIn K (.ref f29) = true)
    (a30 : PySem.W.nsIn K mainGlobals "is_set" = some (some (.ref f30))) (l30 : K.lookup f30 = some ⟨oc30, od30, .func (PySem.W.fnOf "is_set" "is_set" (defArgs s_is_set) (defBody s_is_set) (defScope s_is_set) .none kV30 dc30 pm30 an30 cd30 ct30), sl30⟩) (c30 : PySem.W.codeIn K cd30 "is_set" = true) (k30 : PySem.W.keepIn K (.ref f30) = true)
    (a31 : PySem.W.nsIn K mainGlobals "read_set" = some (some (.ref f31))) (l31 : K.lookup f31 = some ⟨oc31, od31, .func (PySem.W.fnOf "read_set" "read_set" (defArgs s_read_set) (defBody s_read_set) (defScope s_read_set) .none kV31 dc31 pm31 an31 cd31 ct31), sl31⟩) (c31 : PySem.W.codeIn K cd31 "read_set" = true) (k31 : PySem.W.keepIn K (.ref f31) = true)
    (a32 : PySem.W.nsIn K mainGlobals "look_set" = some (some (.ref f32))) (l32 : K.lookup f32 = some ⟨oc32, od32, .func (PySem.W.fnOf "look_set" "look_set" (defArgs s_look_set) (defBody s_look_set) (defScope s_look_set) .none kV32 dc32 pm32 an32 cd32 ct32), sl32⟩) (c32 : PySem.W.codeIn K cd32 "look_set" = true) (k32 : PySem.W.keepIn K (.ref f32) = true)
    (a33 : PySem.W.nsIn K mainGlobals "show_row" = some (some (.ref f33))) (l33 : K.lookup f33 = some ⟨oc33, od33, .func (PySem.W.fnOf "show_row" "show_row" (defArgs s_show_row) (defBody s_show_row) (defScope s_show_row) .none kV33 dc33 pm33 an33 cd33 ct33), sl33⟩) (c33 : PySem.W.codeIn K cd33 "show_row" = true) (k33 : PySem.W.keepIn K (.ref f33) = true)
    (a34 : PySem.W.nsIn K mainGlobals "words_of" = some (some (.ref f34))) (l34 : K.lookup f34 = some ⟨oc34, od34, .func (PySem.W.fnOf "words_of" "words_of" (defArgs s_words_of) (defBody s_words_of) (defScope s_words_of) .none kV34 dc34 pm34 an34 cd34 ct34), sl34⟩) (c34 : PySem.W.codeIn K cd34 "words_of" = true) (k34 : PySem.W.keepIn K (.ref f34) = true)
    (a35 : PySem.W.nsIn K mainGlobals "show_set" = some (some (.ref f35))) (l35 : K.lookup f35 = some ⟨oc35, od35, .func (PySem.W.fnOf "show_set" "show_set" (defArgs s_show_set) (defBody s_show_set) (defScope s_show_set) .none kV35 dc35 pm35 an35 cd35 ct35), sl35⟩) (c35 : PySem.W.codeIn K cd35 "show_set" = true) (k35 : PySem.W.keepIn K (.ref f35) = true)
    (a36 : PySem.W.nsIn K mainGlobals "law" = some (some (.ref f36))) (l36 : K.lookup f36 = some ⟨oc36, od36, .func (PySem.W.fnOf "law" "law" (defArgs s_law) (defBody s_law) (defScope s_law) .none kV36 dc36 pm36 an36 (.ref cT) ct36), sl36⟩) (c36 : PySem.W.codeIn K (.ref cT) "law" = true) (k36 : PySem.W.keepIn K (.ref f36) = true)
    (lC : K.lookup cT = some ⟨qC, dC, .fields vC, sC⟩) (vT : vC[11]? = some (.ref PT)) (hC : PySem.W.codeHdIn K cT PT = true) (nT : K.lookup PT = none) (tT : h.get? PT = some { cls := .none, data := .fields #[] })
    (EgH : PySem.W.nsIn K mainGlobals "HandError" = some (some (.ref CH))) (EqH : PySem.W.clsIn K CH = some yH) (EmH : yH.mro = .ref CH :: bmV) (EtH : PySem.W.typeIn K (.ref CH) = some (.type "type"))
    (Eg0 : PySem.W.nsIn K mainGlobals "NoHouse" = some (some (.ref x0))) (Eq0 : PySem.W.clsIn K x0 = some y0) (Em0 : y0.mro = .ref x0 :: .ref CH :: bmV) (Et0 : PySem.W.typeIn K (.ref x0) = some (.type "type")) (Ep0 : PySem.W.keepIn K (.ref x0) = true) (Ega0 : PySem.W.findIn K (.ref x0) "__getattribute__" = some (some (.builtin "BaseException.__getattribute__"))) (Egt0 : PySem.W.findIn K (.ref x0) "__getattr__" = some none) (Eca0 : PySem.W.findIn K (.ref x0) "__class__" = some (some (.builtin "object.__class__"))) (Eex0 : PySem.W.excIn K x0 bmV "ValueError.__new__" = true)
    (Eg1 : PySem.W.nsIn K mainGlobals "NoRow" = some (some (.ref x1))) (Eq1 : PySem.W.clsIn K x1 = some y1) (Em1 : y1.mro = .ref x1 :: .ref CH :: bmV) (Et1 : PySem.W.typeIn K (.ref x1) = some (.type "type")) (Ep1 : PySem.W.keepIn K (.ref x1) = true) (Ega1 : PySem.W.findIn K (.ref x1) "__getattribute__" = some (some (.builtin "BaseException.__getattribute__"))) (Egt1 : PySem.W.findIn K (.ref x1) "__getattr__" = some none) (Eca1 : PySem.W.findIn K (.ref x1) "__class__" = some (some (.builtin "object.__class__"))) (Eex1 : PySem.W.excIn K x1 bmV "ValueError.__new__" = true)
    (Eg2 : PySem.W.nsIn K mainGlobals "NoMachine" = some (some (.ref x2))) (Eq2 : PySem.W.clsIn K x2 = some y2) (Em2 : y2.mro = .ref x2 :: .ref CH :: bmV) (Et2 : PySem.W.typeIn K (.ref x2) = some (.type "type")) (Ep2 : PySem.W.keepIn K (.ref x2) = true) (Ega2 : PySem.W.findIn K (.ref x2) "__getattribute__" = some (some (.builtin "BaseException.__getattribute__"))) (Egt2 : PySem.W.findIn K (.ref x2) "__getattr__" = some none) (Eca2 : PySem.W.findIn K (.ref x2) "__class__" = some (some (.builtin "object.__class__"))) (Eex2 : PySem.W.excIn K x2 bmV "ValueError.__new__" = true)
    (Eg3 : PySem.W.nsIn K mainGlobals "NoRoom" = some (some (.ref x3))) (Eq3 : PySem.W.clsIn K x3 = some y3) (Em3 : y3.mro = .ref x3 :: .ref CH :: bmV) (Et3 : PySem.W.typeIn K (.ref x3) = some (.type "type")) (Ep3 : PySem.W.keepIn K (.ref x3) = true) (Ega3 : PySem.W.findIn K (.ref x3) "__getattribute__" = some (some (.builtin "BaseException.__getattribute__"))) (Egt3 : PySem.W.findIn K (.ref x3) "__getattr__" = some none) (Eca3 : PySem.W.findIn K (.ref x3) "__class__" = some (some (.builtin "object.__class__"))) (Eex3 : PySem.W.excIn K x3 bmV "ValueError.__new__" = true)
    (Eg4 : PySem.W.nsIn K mainGlobals "NoHand" = some (some (.ref x4))) (Eq4 : PySem.W.clsIn K x4 = some y4) (Em4 : y4.mro = .ref x4 :: .ref CH :: bmV) (Et4 : PySem.W.typeIn K (.ref x4) = some (.type "type")) (Ep4 : PySem.W.keepIn K (.ref x4) = true) (Ega4 : PySem.W.findIn K (.ref x4) "__getattribute__" = some (some (.builtin "BaseException.__getattribute__"))) (Egt4 : PySem.W.findIn K (.ref x4) "__getattr__" = some none) (Eca4 : PySem.W.findIn K (.ref x4) "__class__" = some (some (.builtin "object.__class__"))) (Eex4 : PySem.W.excIn K x4 bmV "ValueError.__new__" = true)
    (Eg5 : PySem.W.nsIn K mainGlobals "Unlike" = some (some (.ref x5))) (Eq5 : PySem.W.clsIn K x5 = some y5) (Em5 : y5.mro = .ref x5 :: .ref CH :: bmV) (Et5 : PySem.W.typeIn K (.ref x5) = some (.type "type")) (Ep5 : PySem.W.keepIn K (.ref x5) = true) (Ega5 : PySem.W.findIn K (.ref x5) "__getattribute__" = some (some (.builtin "BaseException.__getattribute__"))) (Egt5 : PySem.W.findIn K (.ref x5) "__getattr__" = some none) (Eca5 : PySem.W.findIn K (.ref x5) "__class__" = some (some (.builtin "object.__class__"))) (Eex5 : PySem.W.excIn K x5 bmV "ValueError.__new__" = true)
    (Eg6 : PySem.W.nsIn K mainGlobals "NoPast" = some (some (.ref x6))) (Eq6 : PySem.W.clsIn K x6 = some y6) (Em6 : y6.mro = .ref x6 :: .ref CH :: bmV) (Et6 : PySem.W.typeIn K (.ref x6) = some (.type "type")) (Ep6 : PySem.W.keepIn K (.ref x6) = true) (Ega6 : PySem.W.findIn K (.ref x6) "__getattribute__" = some (some (.builtin "BaseException.__getattribute__"))) (Egt6 : PySem.W.findIn K (.ref x6) "__getattr__" = some none) (Eca6 : PySem.W.findIn K (.ref x6) "__class__" = some (some (.builtin "object.__class__"))) (Eex6 : PySem.W.excIn K x6 bmV "ValueError.__new__" = true)
    (Eg7 : PySem.W.nsIn K mainGlobals "TooMany" = some (some (.ref x7))) (Eq7 : PySem.W.clsIn K x7 = some y7) (Em7 : y7.mro = .ref x7 :: .ref CH :: bmV) (Et7 : PySem.W.typeIn K (.ref x7) = some (.type "type")) (Ep7 : PySem.W.keepIn K (.ref x7) = true) (Ega7 : PySem.W.findIn K (.ref x7) "__getattribute__" = some (some (.builtin "BaseException.__getattribute__"))) (Egt7 : PySem.W.findIn K (.ref x7) "__getattr__" = some none) (Eca7 : PySem.W.findIn K (.ref x7) "__class__" = some (some (.builtin "object.__class__"))) (Eex7 : PySem.W.excIn K x7 bmV "ValueError.__new__" = true)
    (Eg8 : PySem.W.nsIn K mainGlobals "Torn" = some (some (.ref x8))) (Eq8 : PySem.W.clsIn K x8 = some y8) (Em8 : y8.mro = .ref x8 :: .ref CH :: bmV) (Et8 : PySem.W.typeIn K (.ref x8) = some (.type "type")) (Ep8 : PySem.W.keepIn K (.ref x8) = true) (Ega8 : PySem.W.findIn K (.ref x8) "__getattribute__" = some (some (.builtin "BaseException.__getattribute__"))) (Egt8 : PySem.W.findIn K (.ref x8) "__getattr__" = some none) (Eca8 : PySem.W.findIn K (.ref x8) "__class__" = some (some (.builtin "object.__class__")))
    (Eg9 : PySem.W.nsIn K mainGlobals "NoTable" = some (some (.ref x9))) (Eq9 : PySem.W.clsIn K x9 = some y9) (Em9 : y9.mro = .ref x9 :: .ref CH :: bmV) (Et9 : PySem.W.typeIn K (.ref x9) = some (.type "type")) (Ep9 : PySem.W.keepIn K (.ref x9) = true) (Ega9 : PySem.W.findIn K (.ref x9) "__getattribute__" = some (some (.builtin "BaseException.__getattribute__"))) (Egt9 : PySem.W.findIn K (.ref x9) "__getattr__" = some none) (Eca9 : PySem.W.findIn K (.ref x9) "__class__" = some (some (.builtin "object.__class__"))) (Eex9 : PySem.W.excIn K x9 bmV "ValueError.__new__" = true)
    (Eg10 : PySem.W.nsIn K mainGlobals "NoSet" = some (some (.ref x10))) (Eq10 : PySem.W.clsIn K x10 = some y10) (Em10 : y10.mro = .ref x10 :: .ref CH :: bmV) (Et10 : PySem.W.typeIn K (.ref x10) = some (.type "type")) (Ep10 : PySem.W.keepIn K (.ref x10) = true) (Ega10 : PySem.W.findIn K (.ref x10) "__getattribute__" = some (some (.builtin "BaseException.__getattribute__"))) (Egt10 : PySem.W.findIn K (.ref x10) "__getattr__" = some none) (Eca10 : PySem.W.findIn K (.ref x10) "__class__" = some (some (.builtin "object.__class__"))) (Eex10 : PySem.W.excIn K x10 bmV "ValueError.__new__" = true)
    (Eg11 : PySem.W.nsIn K mainGlobals "Falls" = some (some (.ref x11))) (Eq11 : PySem.W.clsIn K x11 = some y11) (Em11 : y11.mro = .ref x11 :: .ref CH :: bmV) (Et11 : PySem.W.typeIn K (.ref x11) = some (.type "type")) (Ep11 : PySem.W.keepIn K (.ref x11) = true) (Ega11 : PySem.W.findIn K (.ref x11) "__getattribute__" = some (some (.builtin "BaseException.__getattribute__"))) (Egt11 : PySem.W.findIn K (.ref x11) "__getattr__" = some none) (Eca11 : PySem.W.findIn K (.ref x11) "__class__" = some (some (.builtin "object.__class__")))
    (Eg12 : PySem.W.nsIn K mainGlobals "Whole" = some (some (.ref x12))) (Eq12 : PySem.W.clsIn K x12 = some y12) (Em12 : y12.mro = .ref x12 :: .ref CH :: bmV) (Et12 : PySem.W.typeIn K (.ref x12) = some (.type "type")) (Ep12 : PySem.W.keepIn K (.ref x12) = true) (Ega12 : PySem.W.findIn K (.ref x12) "__getattribute__" = some (some (.builtin "BaseException.__getattribute__"))) (Egt12 : PySem.W.findIn K (.ref x12) "__getattr__" = some none) (Eca12 : PySem.W.findIn K (.ref x12) "__class__" = some (some (.builtin "object.__class__"))) (Eex12 : PySem.W.excIn K x12 bmV "ValueError.__new__" = true)
    (Eg13 : PySem.W.nsIn K mainGlobals "NoText" = some (some (.ref x13))) (Eq13 : PySem.W.clsIn K x13 = some y13) (Em13 : y13.mro = .ref x13 :: .ref CH :: bmV) (Et13 : PySem.W.typeIn K (.ref x13) = some (.type "type")) (Ep13 : PySem.W.keepIn K (.ref x13) = true) (Ega13 : PySem.W.findIn K (.ref x13) "__getattribute__" = some (some (.builtin "BaseException.__getattribute__"))) (Egt13 : PySem.W.findIn K (.ref x13) "__getattr__" = some none) (Eca13 : PySem.W.findIn K (.ref x13) "__class__" = some (some (.builtin "object.__class__"))) (Eex13 : PySem.W.excIn K x13 bmV "ValueError.__new__" = true)
    (Eg14 : PySem.W.nsIn K mainGlobals "NoWord" = some (some (.ref x14))) (Eq14 : PySem.W.clsIn K x14 = some y14) (Em14 : y14.mro = .ref x14 :: .ref CH :: bmV) (Et14 : PySem.W.typeIn K (.ref x14) = some (.type "type")) (Ep14 : PySem.W.keepIn K (.ref x14) = true) (Ega14 : PySem.W.findIn K (.ref x14) "__getattribute__" = some (some (.builtin "BaseException.__getattribute__"))) (Egt14 : PySem.W.findIn K (.ref x14) "__getattr__" = some none) (Eca14 : PySem.W.findIn K (.ref x14) "__class__" = some (some (.builtin "object.__class__"))) (Eex14 : PySem.W.excIn K x14 bmV "ValueError.__new__" = true)
    (Enn : PySem.W.specialIn K (.builtin "object.__class__") "__get__" = some (some (.builtin "getset_descriptor.__get__"))) (Etk : PySem.W.takesIn K (.builtin "object.__class__") = some true) (End : (CH :: [x0, x1, x2, x3, x4, x5, x6, x7, x8, x9, x10, x11, x12, x13, x14]).Nodup)
    (a38 : PySem.W.nsIn K mainGlobals "_law_answer" = some (some (.ref f38))) (l38 : K.lookup f38 = some ⟨oc38, od38, .func (PySem.W.fnOf "_law_answer" "_law_answer" (defArgs s__law_answer) (defBody s__law_answer) (defScope s__law_answer) .none kV38 dc38 pm38 an38 cd38 ct38), sl38⟩) (c38 : PySem.W.codeIn K cd38 "_law_answer" = true) (k38 : PySem.W.keepIn K (.ref f38) = true)
    (a39 : PySem.W.nsIn K mainGlobals "_law_refuses" = some (some (.ref f39))) (l39 : K.lookup f39 = some ⟨oc39, od39, .func (PySem.W.fnOf "_law_refuses" "_law_refuses" (defArgs s__law_refuses) (defBody s__law_refuses) (defScope s__law_refuses) .none kV39 dc39 pm39 an39 cd39 ct39), sl39⟩) (c39 : PySem.W.codeIn K cd39 "_law_refuses" = true) (k39 : PySem.W.keepIn K (.ref f39) = true)
    (a37 : PySem.W.nsIn K mainGlobals "_law_word" = some (some (.ref f37))) (l37 : K.lookup f37 = some ⟨oc37, od37, .func (PySem.W.fnOf "_law_word" "_law_word" (defArgs s__law_word) (defBody s__law_word) (defScope s__law_word) .none kV37 dc37 pm37 an37 cd37 ct37), sl37⟩) (c37 : PySem.W.codeIn K cd37 "_law_word" = true) (k37 : PySem.W.keepIn K (.ref f37) = true)
    (z_ValueError : PySem.W.nsIn K mainGlobals "ValueError" = some none)
    (z_abs : PySem.W.nsIn K mainGlobals "abs" = some none)
    (z_all : PySem.W.nsIn K mainGlobals "all" = some none)
    (z_bool : PySem.W.nsIn K mainGlobals "bool" = some none)
    (z_int : PySem.W.nsIn K mainGlobals "int" = some none)
    (z_isinstance : PySem.W.nsIn K mainGlobals "isinstance" = some none)
    (z_len : PySem.W.nsIn K mainGlobals "len" = some none)
    (z_list : PySem.W.nsIn K mainGlobals "list" = some none)
    (z_max : PySem.W.nsIn K mainGlobals "max" = some none)
    (z_min : PySem.W.nsIn K mainGlobals "min" = some none)
    (z_range : PySem.W.nsIn K mainGlobals "range" = some none)
    (z_str : PySem.W.nsIn K mainGlobals "str" = some none)
    (z_sum : PySem.W.nsIn K mainGlobals "sum" = some none)
    (z_tuple : PySem.W.nsIn K mainGlobals "tuple" = some none)
    (z_zip : PySem.W.nsIn K mainGlobals "zip" = some none)
    (e_LETTERS_houses : PySem.W.nsIn K mainGlobals "LETTERS_houses" = some (some (.str "abcdefghijklmnopqrstuvwxyz" t_LETTERS_houses)))
    (e_FEWEST_HANDS : PySem.W.nsIn K mainGlobals "FEWEST_HANDS" = some (some (.int 2 t_FEWEST_HANDS)))
    (e_MOST_HANDS : PySem.W.nsIn K mainGlobals "MOST_HANDS" = some (some (.int 4 t_MOST_HANDS)))
    (e_MOST_LETTERS_houses : PySem.W.nsIn K mainGlobals "MOST_LETTERS_houses" = some (some (.int 6 t_MOST_LETTERS_houses)))
    (e_MOST_LETTERS_sets : PySem.W.nsIn K mainGlobals "MOST_LETTERS_sets" = some (some (.int 4 t_MOST_LETTERS_sets)))
    (e_MOST_ROWS : PySem.W.nsIn K mainGlobals "MOST_ROWS" = some (some (.int 5 t_MOST_ROWS)))
    (e_MOST_TUPLES_sets : PySem.W.nsIn K mainGlobals "MOST_TUPLES_sets" = some (some (.int 12 t_MOST_TUPLES_sets)))
    (e_WITH_ROW : PySem.W.nsIn K mainGlobals "WITH_ROW" = some (some (.ref ga_WITH_ROW)))
    (m_WITH_ROW : K.lookup ga_WITH_ROW = some ⟨.type "tuple", gd_WITH_ROW, .seq #[.str "row" u_WITH_ROW_0, .str "again" u_WITH_ROW_1] gn_WITH_ROW, gs_WITH_ROW⟩)
    (e_WITH_ONE : PySem.W.nsIn K mainGlobals "WITH_ONE" = some (some (.ref ga_WITH_ONE)))
    (m_WITH_ONE : K.lookup ga_WITH_ONE = some ⟨.type "tuple", gd_WITH_ONE, .seq #[.str "not" u_WITH_ONE_0] gn_WITH_ONE, gs_WITH_ONE⟩)
    (e_WITH_TWO : PySem.W.nsIn K mainGlobals "WITH_TWO" = some (some (.ref ga_WITH_TWO)))
    (m_WITH_TWO : K.lookup ga_WITH_TWO = some ⟨.type "tuple", gd_WITH_TWO, .seq #[.str "either" u_WITH_TWO_0, .str "both" u_WITH_TWO_1, .str "then" u_WITH_TWO_2] gn_WITH_TWO, gs_WITH_TWO⟩)
    (e_LETTERS_texts : PySem.W.nsIn K mainGlobals "LETTERS_texts" = some (some (.str "abcdefghijklmnopqrstuvwxyz" t_LETTERS_texts)))
    (e_MOST_TUPLES_texts : PySem.W.nsIn K mainGlobals "MOST_TUPLES_texts" = some (some (.int 12 t_MOST_TUPLES_texts)))
    (e_PARTS : PySem.W.nsIn K mainGlobals "PARTS" = some (some (.ref ga_PARTS)))
    (m_PARTS : K.lookup ga_PARTS = some ⟨.type "dict", none, .dict #[⟨PyData.keyHash w.params "row", .str "row" u_PARTS_0, .ref gb_PARTS_0⟩, ⟨PyData.keyHash w.params "again", .str "again" u_PARTS_1, .ref gb_PARTS_1⟩, ⟨PyData.keyHash w.params "not", .str "not" u_PARTS_2, .ref gb_PARTS_2⟩, ⟨PyData.keyHash w.params "either", .str "either" u_PARTS_3, .ref gb_PARTS_3⟩, ⟨PyData.keyHash w.params "both", .str "both" u_PARTS_4, .ref gb_PARTS_4⟩, ⟨PyData.keyHash w.params "then", .str "then" u_PARTS_5, .ref gb_PARTS_5⟩] gn_PARTS, #[]⟩)
    (s_PARTS : (ga_PARTS == sysModules) = false)
    (p_PARTS_0 : K.lookup gb_PARTS_0 = some ⟨.type "tuple", gd_PARTS_0, .seq #[.int 0 v_PARTS_0_0, .int 1 v_PARTS_0_1] gn_PARTS_0, gs_PARTS_0⟩)
    (p_PARTS_1 : K.lookup gb_PARTS_1 = some ⟨.type "tuple", gd_PARTS_1, .seq #[.int 0 v_PARTS_1_0, .int 1 v_PARTS_1_1] gn_PARTS_1, gs_PARTS_1⟩)
    (p_PARTS_2 : K.lookup gb_PARTS_2 = some ⟨.type "tuple", gd_PARTS_2, .seq #[.int 1 v_PARTS_2_0, .int 0 v_PARTS_2_1] gn_PARTS_2, gs_PARTS_2⟩)
    (p_PARTS_3 : K.lookup gb_PARTS_3 = some ⟨.type "tuple", gd_PARTS_3, .seq #[.int 2 v_PARTS_3_0, .int 0 v_PARTS_3_1] gn_PARTS_3, gs_PARTS_3⟩)
    (p_PARTS_4 : K.lookup gb_PARTS_4 = some ⟨.type "tuple", gd_PARTS_4, .seq #[.int 2 v_PARTS_4_0, .int 0 v_PARTS_4_1] gn_PARTS_4, gs_PARTS_4⟩)
    (p_PARTS_5 : K.lookup gb_PARTS_5 = some ⟨.type "tuple", gd_PARTS_5, .seq #[.int 2 v_PARTS_5_0, .int 0 v_PARTS_5_1] gn_PARTS_5, gs_PARTS_5⟩) :
    ∃ (fd : FuncData) (c P_ : Addr) (qn : Str), h.get? P_ = some { cls := .none, data := .fields #[] } ∧ K.lookup P_ = none ∧ PySem.W.CodeHd h c P_ ∧ (∀ (s : Shared) (v : Value), BindsTo s fd ⟨[v], []⟩ [("_law_script", v)]) ∧ ∀ base : Heap, K.In base → base.Ns mainGlobals mg → LamX.TabB base mg c P_ → FnOk P w K mg base (L2N.CX P w) 32 fa fd ["_law_script"] (@spTop ⟨[(P_, qn)]⟩ K (List.replicate 1 false) m_law) := by
  have e := hfa.symm.trans (PySem.W.mg_of X G a36)
  cases e
  have B : Bi K w mg := ⟨PySem.W.mg_none_of X G z_ValueError, PySem.W.mg_none_of X G z_abs, PySem.W.mg_none_of X G z_all, PySem.W.mg_none_of X G z_bool, PySem.W.mg_none_of X G z_int, PySem.W.mg_none_of X G z_isinstance, PySem.W.mg_none_of X G z_len, PySem.W.mg_none_of X G z_list, PySem.W.mg_none_of X G z_max, PySem.W.mg_none_of X G z_min, PySem.W.mg_none_of X G z_range, PySem.W.mg_none_of X G z_str, PySem.W.mg_none_of X G z_sum, PySem.W.mg_none_of X G z_tuple, PySem.W.mg_none_of X G z_zip, ⟨_, PySem.W.mg_of X G e_LETTERS_houses⟩, ⟨_, PySem.W.mg_of X G e_FEWEST_HANDS⟩, ⟨_, PySem.W.mg_of X G e_MOST_HANDS⟩, ⟨_, PySem.W.mg_of X G e_MOST_LETTERS_houses⟩, ⟨_, PySem.W.mg_of X G e_MOST_LETTERS_sets⟩, ⟨_, PySem.W.mg_of X G e_MOST_ROWS⟩, ⟨_, PySem.W.mg_of X G e_MOST_TUPLES_sets⟩, ⟨_, PySem.W.mg_of X G e_WITH_ROW, ctup_mk m_WITH_ROW rfl (Nat.le_of_ble_eq_true rfl) ((.cons ⟨_, rfl⟩ (.cons ⟨_, rfl⟩ .nil)))⟩, ⟨_, PySem.W.mg_of X G e_WITH_ONE, ctup_mk m_WITH_ONE rfl (Nat.le_of_ble_eq_true rfl) ((.cons ⟨_, rfl⟩ .nil))⟩, ⟨_, PySem.W.mg_of X G e_WITH_TWO, ctup_mk m_WITH_TWO rfl (Nat.le_of_ble_eq_true rfl) ((.cons ⟨_, rfl⟩ (.cons ⟨_, rfl⟩ (.cons ⟨_, rfl⟩ .nil))))⟩, ⟨_, PySem.W.mg_of X G e_LETTERS_texts⟩, ⟨_, PySem.W.mg_of X G e_MOST_TUPLES_texts⟩, ⟨_, PySem.W.mg_of X G e_PARTS, _, _, m_PARTS, s_PARTS, ⟨⟨⟨_, rfl⟩, rfl, _, rfl, cints_mk p_PARTS_0 rfl (Nat.le_of_ble_eq_true rfl) ((.cons ⟨_, rfl⟩ (.cons ⟨_, rfl⟩ .nil)))⟩, ⟨⟨⟨_, rfl⟩, rfl, _, rfl, cints_mk p_PARTS_1 rfl (Nat.le_of_ble_eq_true rfl) ((.cons ⟨_, rfl⟩ (.cons ⟨_, rfl⟩ .nil)))⟩, ⟨⟨⟨_, rfl⟩, rfl, _, rfl, cints_mk p_PARTS_2 rfl (Nat.le_of_ble_eq_true rfl) ((.cons ⟨_, rfl⟩ (.cons ⟨_, rfl⟩ .nil)))⟩, ⟨⟨⟨_, rfl⟩, rfl, _, rfl, cints_mk p_PARTS_3 rfl (Nat.le_of_ble_eq_true rfl) ((.cons ⟨_, rfl⟩ (.cons ⟨_, rfl⟩ .nil)))⟩, ⟨⟨⟨_, rfl⟩, rfl, _, rfl, cints_mk p_PARTS_4 rfl (Nat.le_of_ble_eq_true rfl) ((.cons ⟨_, rfl⟩ (.cons ⟨_, rfl⟩ .nil)))⟩, ⟨⟨⟨_, rfl⟩, rfl, _, rfl, cints_mk p_PARTS_5 rfl (Nat.le_of_ble_eq_true rfl) ((.cons ⟨_, rfl⟩ (.cons ⟨_, rfl⟩ .nil)))⟩, trivial⟩⟩⟩⟩⟩⟩⟩⟩
  have XT : ETx K mg CH [x0, x1, x2, x3, x4, x5, x6, x7, x8, x9, x10, x11, x12, x13, x14] := by
    refine ⟨⟨rfl, fun i C n hi hn => ?_, fun C hC => ?_, End, PySem.W.mg_of X G EgH, ⟨_, EqH, EmH⟩, EtH, Enn, Etk⟩, fun i n8 n11 C hi => ?_⟩
    · match i, hi, hn with
      | 0, hi, hn => cases hi; cases hn; exact PySem.W.mg_of X G Eg0
      | 1, hi, hn => cases hi; cases hn; exact PySem.W.mg_of X G Eg1
      | 2, hi, hn => cases hi; cases hn; exact PySem.W.mg_of X G Eg2
      | 3, hi, hn => cases hi; cases hn; exact PySem.W.mg_of X G Eg3
      | 4, hi, hn => cases hi; cases hn; exact PySem.W.mg_of X G Eg4
      | 5, hi, hn => cases hi; cases hn; exact PySem.W.mg_of X G Eg5
      | 6, hi, hn => cases hi; cases hn; exact PySem.W.mg_of X G Eg6
      | 7, hi, hn => cases hi; cases hn; exact PySem.W.mg_of X G Eg7
      | 8, hi, hn => cases hi; cases hn; exact PySem.W.mg_of X G Eg8
      | 9, hi, hn => cases hi; cases hn; exact PySem.W.mg_of X G Eg9
      | 10, hi, hn => cases hi; cases hn; exact PySem.W.mg_of X G Eg10
      | 11, hi, hn => cases hi; cases hn; exact PySem.W.mg_of X G Eg11
      | 12, hi, hn => cases hi; cases hn; exact PySem.W.mg_of X G Eg12
      | 13, hi, hn => cases hi; cases hn; exact PySem.W.mg_of X G Eg13
      | 14, hi, hn => cases hi; cases hn; exact PySem.W.mg_of X G Eg14
      | i + 15, hi, hn => simp at hi
    · simp only [List.mem_cons, List.not_mem_nil, or_false] at hC
      rcases hC with rfl | rfl | rfl | rfl | rfl | rfl | rfl | rfl | rfl | rfl | rfl | rfl | rfl | rfl | rfl
      · exact ⟨⟨_, Eq0, Em0⟩, Et0, Ep0, Ega0, Egt0, Eca0⟩
      · exact ⟨⟨_, Eq1, Em1⟩, Et1, Ep1, Ega1, Egt1, Eca1⟩
      · exact ⟨⟨_, Eq2, Em2⟩, Et2, Ep2, Ega2, Egt2, Eca2⟩
      · exact ⟨⟨_, Eq3, Em3⟩, Et3, Ep3, Ega3, Egt3, Eca3⟩
      · exact ⟨⟨_, Eq4, Em4⟩, Et4, Ep4, Ega4, Egt4, Eca4⟩
      · exact ⟨⟨_, Eq5, Em5⟩, Et5, Ep5, Ega5, Egt5, Eca5⟩
      · exact ⟨⟨_, Eq6, Em6⟩, Et6, Ep6, Ega6, Egt6, Eca6⟩
      · exact ⟨⟨_, Eq7, Em7⟩, Et7, Ep7, Ega7, Egt7, Eca7⟩
      · exact ⟨⟨_, Eq8, Em8⟩, Et8, Ep8, Ega8, Egt8, Eca8⟩
      · exact ⟨⟨_, Eq9, Em9⟩, Et9, Ep9, Ega9, Egt9, Eca9⟩
      · exact ⟨⟨_, Eq10, Em10⟩, Et10, Ep10, Ega10, Egt10, Eca10⟩
      · exact ⟨⟨_, Eq11, Em11⟩, Et11, Ep11, Ega11, Egt11, Eca11⟩
      · exact ⟨⟨_, Eq12, Em12⟩, Et12, Ep12, Ega12, Egt12, Eca12⟩
      · exact ⟨⟨_, Eq13, Em13⟩, Et13, Ep13, Ega13, Egt13, Eca13⟩
      · exact ⟨⟨_, Eq14, Em14⟩, Et14, Ep14, Ega14, Egt14, Eca14⟩
    · match i, n8, n11, hi with
      | 0, n8, n11, hi => cases hi; exact Eex0
      | 1, n8, n11, hi => cases hi; exact Eex1
      | 2, n8, n11, hi => cases hi; exact Eex2
      | 3, n8, n11, hi => cases hi; exact Eex3
      | 4, n8, n11, hi => cases hi; exact Eex4
      | 5, n8, n11, hi => cases hi; exact Eex5
      | 6, n8, n11, hi => cases hi; exact Eex6
      | 7, n8, n11, hi => cases hi; exact Eex7
      | 8, n8, n11, hi => exact absurd rfl n8
      | 9, n8, n11, hi => cases hi; exact Eex9
      | 10, n8, n11, hi => cases hi; exact Eex10
      | 11, n8, n11, hi => exact absurd rfl n11
      | 12, n8, n11, hi => cases hi; exact Eex12
      | 13, n8, n11, hi => cases hi; exact Eex13
      | 14, n8, n11, hi => cases hi; exact Eex14
      | i + 15, n8, n11, hi => simp at hi
  refine ⟨PySem.W.fnOf "law" "law" (defArgs s_law) (defBody s_law) (defScope s_law) .none kV36 dc36 pm36 an36 (.ref cT) ct36, cT, PT, ("law" : Str) ++ ".<locals>." ++ "<lambda>", tT, nT, PySem.W.codeHd_of_K X hC, fun s v => .of_eq rfl, fun base _ _ TB => ?_⟩
  letI : TabC := ⟨[(PT, ("law" : Str) ++ ".<locals>." ++ "<lambda>")]⟩
  have C__law_word : CalH P w K mg base [x0, x1, x2, x3, x4, x5, x6, x7, x8, x9, x10, x11, x12, x13, x14] "_law_word" 2 := ok__law_word (fun_mk (st := s__law_word) l37 c37 k37) (PySem.W.mg_of X G a37) B XT
  have C__law_answer : Ans P w K mg base [x0, x1, x2, x3, x4, x5, x6, x7, x8, x9, x10, x11, x12, x13, x14] "_law_answer" := ok__law_answer (fun_mk (st := s__law_answer) l38 c38 k38) (PySem.W.mg_of X G a38) XT C__law_word
  have C__law_refuses : Ref P w K mg base [x0, x1, x2, x3, x4, x5, x6, x7, x8, x9, x10, x11, x12, x13, x14] "_law_refuses" := ok__law_refuses (fun_mk (st := s__law_refuses) l39 c39 k39) (PySem.W.mg_of X G a39) C__law_answer
  have C__law_bag : Cal P w K mg base (RXP [x0, x1, x2, x3, x4, x5, x6, x7, x8, x9, x10, x11, x12, x13, x14]) "_law_bag" 1 (List.replicate 1 false) m__law_bag := ok__law_bag (fun_mk (st := s__law_bag) l0 c0 k0) (PySem.W.mg_of X G a0) B XT C__law_word 
  have C__law_take : Cal P w K mg base (RXP [x0, x1, x2, x3, x4, x5, x6, x7, x8, x9, x10, x11, x12, x13, x14]) "_law_take" 1 (true :: List.replicate 1 false) m__law_take := ok__law_take (fun_mk (st := s__law_take) l1 c1 k1) (PySem.W.mg_of X G a1) B XT C__law_word 
  have C__law_house : Cal P w K mg base (RXP [x0, x1, x2, x3, x4, x5, x6, x7, x8, x9, x10, x11, x12, x13, x14]) "_law_house" 2 (true :: List.replicate 0 false) m__law_house := ok__law_house (fun_mk (st := s__law_house) l2 c2 k2) (PySem.W.mg_of X G a2) B XT C__law_word C__law_take
  have C__law_house_copy : Cal P w K mg base (RXP [x0, x1, x2, x3, x4, x5, x6, x7, x8, x9, x10, x11, x12, x13, x14]) "_law_house_copy" 1 (List.replicate 1 false) m__law_house_copy := ok__law_house_copy (fun_mk (st := s__law_house_copy) l3 c3 k3) (PySem.W.mg_of X G a3) B XT C__law_word 
  have C__law_set : Cal P w K mg base (RXP [x0, x1, x2, x3, x4, x5, x6, x7, x8, x9, x10, x11, x12, x13, x14]) "_law_set" 15 (true :: List.replicate 3 false) m__law_set := ok__law_set (fun_mk (st := s__law_set) l4 c4 k4) (PySem.W.mg_of X G a4) B XT C__law_word C__law_take
  have C__law_deep : Cal P w K mg base (RXP [x0, x1, x2, x3, x4, x5, x6, x7, x8, x9, x10, x11, x12, x13, x14]) "_law_deep" 1 (List.replicate 2 false) m__law_deep := ok__law_deep (fun_mk (st := s__law_deep) l5 c5 k5) (PySem.W.mg_of X G a5) B XT C__law_word 
  have C__law_thirteen : Cal P w K mg base (RXP [x0, x1, x2, x3, x4, x5, x6, x7, x8, x9, x10, x11, x12, x13, x14]) "_law_thirteen" 2 (List.replicate 1 false) m__law_thirteen := ok__law_thirteen (fun_mk (st := s__law_thirteen) l6 c6 k6) (PySem.W.mg_of X G a6) B XT C__law_word C__law_deep
  have C__law_no_set : Cal P w K mg base (RXP [x0, x1, x2, x3, x4, x5, x6, x7, x8, x9, x10, x11, x12, x13, x14]) "_law_no_set" 3 (true :: List.replicate 2 false) m__law_no_set := ok__law_no_set (fun_mk (st := s__law_no_set) l7 c7 k7) (PySem.W.mg_of X G a7) B XT C__law_word C__law_thirteen C__law_take
  have C__law_no_house : Cal P w K mg base (RXP [x0, x1, x2, x3, x4, x5, x6, x7, x8, x9, x10, x11, x12, x13, x14]) "_law_no_house" 2 (true :: List.replicate 1 false) m__law_no_house := ok__law_no_house (fun_mk (st := s__law_no_house) l8 c8 k8) (PySem.W.mg_of X G a8) B XT C__law_word C__law_take
  have C__law_row_word : Cal P w K mg base (RXP [x0, x1, x2, x3, x4, x5, x6, x7, x8, x9, x10, x11, x12, x13, x14]) "_law_row_word" 1 (List.replicate 1 false) m__law_row_word := ok__law_row_word (fun_mk (st := s__law_row_word) l9 c9 k9) (PySem.W.mg_of X G a9) B XT C__law_word 
  have C__law_set_words : Cal P w K mg base (RXP [x0, x1, x2, x3, x4, x5, x6, x7, x8, x9, x10, x11, x12, x13, x14]) "_law_set_words" 15 (List.replicate 1 false) m__law_set_words := ok__law_set_words (fun_mk (st := s__law_set_words) l10 c10 k10) (PySem.W.mg_of X G a10) B XT C__law_word C__law_row_word
  have C__law_same_set : Cal P w K mg base (RXP [x0, x1, x2, x3, x4, x5, x6, x7, x8, x9, x10, x11, x12, x13, x14]) "_law_same_set" 15 (List.replicate 2 false) m__law_same_set := ok__law_same_set (fun_mk (st := s__law_same_set) l11 c11 k11) (PySem.W.mg_of X G a11) B XT C__law_word 
  have C__law_cell : Cal P w K mg base (RXP [x0, x1, x2, x3, x4, x5, x6, x7, x8, x9, x10, x11, x12, x13, x14]) "_law_cell" 1 (List.replicate 2 false) m__law_cell := ok__law_cell (fun_mk (st := s__law_cell) l12 c12 k12) (PySem.W.mg_of X G a12) B XT C__law_word 
  have C__law_whole : Cal P w K mg base (RXP [x0, x1, x2, x3, x4, x5, x6, x7, x8, x9, x10, x11, x12, x13, x14]) "_law_whole" 1 (List.replicate 1 false) m__law_whole := ok__law_whole (fun_mk (st := s__law_whole) l13 c13 k13) (PySem.W.mg_of X G a13) B XT C__law_word 
  have C__law_same : Cal P w K mg base (RXP [x0, x1, x2, x3, x4, x5, x6, x7, x8, x9, x10, x11, x12, x13, x14]) "_law_same" 8 (List.replicate 2 false) m__law_same := ok__law_same (fun_mk (st := s__law_same) l14 c14 k14) (PySem.W.mg_of X G a14) B XT C__law_word C__law_whole
  have C_is_whole : Cal P w K mg base (RXP [x0, x1, x2, x3, x4, x5, x6, x7, x8, x9, x10, x11, x12, x13, x14]) "is_whole" 1 (List.replicate 1 false) m_is_whole := ok_is_whole (fun_mk (st := s_is_whole) l15 c15 k15) (PySem.W.mg_of X G a15) B XT C__law_word 
  have C_is_sign : Cal P w K mg base (RXP [x0, x1, x2, x3, x4, x5, x6, x7, x8, x9, x10, x11, x12, x13, x14]) "is_sign" 1 (List.replicate 1 false) m_is_sign := ok_is_sign (fun_mk (st := s_is_sign) l16 c16 k16) (PySem.W.mg_of X G a16) B XT C__law_word 
  have C_is_rising : Cal P w K mg base (RXP [x0, x1, x2, x3, x4, x5, x6, x7, x8, x9, x10, x11, x12, x13, x14]) "is_rising" 2 (List.replicate 2 false) m_is_rising := ok_is_rising (fun_mk (st := s_is_rising) l17 c17 k17) (PySem.W.mg_of X G a17) B XT C__law_word C_is_whole
  have C_is_entry : Cal P w K mg base (RXP [x0, x1, x2, x3, x4, x5, x6, x7, x8, x9, x10, x11, x12, x13, x14]) "is_entry" 3 (List.replicate 2 false) m_is_entry := ok_is_entry (fun_mk (st := s_is_entry) l18 c18 k18) (PySem.W.mg_of X G a18) B XT C__law_word C_is_rising C_is_sign
  have C_is_house : Cal P w K mg base (RXP [x0, x1, x2, x3, x4, x5, x6, x7, x8, x9, x10, x11, x12, x13, x14]) "is_house" 4 (List.replicate 1 false) m_is_house := ok_is_house (fun_mk (st := s_is_house) l19 c19 k19) (PySem.W.mg_of X G a19) B XT C__law_word C_is_entry C_is_whole
  have C_look_house : Cal P w K mg base (RXP [x0, x1, x2, x3, x4, x5, x6, x7, x8, x9, x10, x11, x12, x13, x14]) "look_house" 5 (List.replicate 1 false) m_look_house := ok_look_house (fun_mk (st := s_look_house) l20 c20 k20) (PySem.W.mg_of X G a20) B XT C__law_word C_is_house
  have C_look_text : Cal P w K mg base (RXP [x0, x1, x2, x3, x4, x5, x6, x7, x8, x9, x10, x11, x12, x13, x14]) "look_text" 1 (List.replicate 1 false) m_look_text := ok_look_text (fun_mk (st := s_look_text) l21 c21 k21) (PySem.W.mg_of X G a21) B XT C__law_word 
  have C_read_row : Cal P w K mg base (RXP [x0, x1, x2, x3, x4, x5, x6, x7, x8, x9, x10, x11, x12, x13, x14]) "read_row" 1 (List.replicate 1 false) m_read_row := ok_read_row (fun_mk (st := s_read_row) l22 c22 k22) (PySem.W.mg_of X G a22) B XT C__law_word 
  have C_read_first : Cal P w K mg base (RXP [x0, x1, x2, x3, x4, x5, x6, x7, x8, x9, x10, x11, x12, x13, x14]) "read_first" 2 (List.replicate 2 false) m_read_first := ok_read_first (fun_mk (st := s_read_first) l23 c23 k23) (PySem.W.mg_of X G a23) B XT C__law_word C_read_row
  have C_is_done : Cal P w K mg base (RXP [x0, x1, x2, x3, x4, x5, x6, x7, x8, x9, x10, x11, x12, x13, x14]) "is_done" 1 (List.replicate 1 false) m_is_done := ok_is_done (fun_mk (st := s_is_done) l24 c24 k24) (PySem.W.mg_of X G a24) B XT C__law_word 
  have C_read_words : Cal P w K mg base (RXP [x0, x1, x2, x3, x4, x5, x6, x7, x8, x9, x10, x11, x12, x13, x14]) "read_words" 3 (List.replicate 1 false) m_read_words := ok_read_words (fun_mk (st := s_read_words) l25 c25 k25) (PySem.W.mg_of X G a25) B XT C__law_word C_is_done C_read_first
  have C_letters_of : Cal P w K mg base (RXP [x0, x1, x2, x3, x4, x5, x6, x7, x8, x9, x10, x11, x12, x13, x14]) "letters_of" 1 (List.replicate 1 false) m_letters_of := ok_letters_of (fun_mk (st := s_letters_of) l26 c26 k26) (PySem.W.mg_of X G a26) B XT C__law_word 
  have C_is_row : Cal P w K mg base (RXP [x0, x1, x2, x3, x4, x5, x6, x7, x8, x9, x10, x11, x12, x13, x14]) "is_row" 6 (List.replicate 2 false) m_is_row := ok_is_row (fun_mk (st := s_is_row) l27 c27 k27) (PySem.W.mg_of X G a27) B XT C__law_word C_letters_of C_look_house
  have C_tuples_in : Cal P w K mg base (RXP [x0, x1, x2, x3, x4, x5, x6, x7, x8, x9, x10, x11, x12, x13, x14]) "tuples_in" 25 (List.replicate 2 false) m_tuples_in := ok_tuples_in (fun_mk (st := s_tuples_in) l28 c28 k28) (PySem.W.mg_of X G a28) B XT C__law_word C_is_row
  have C_is_set_of : Cal P w K mg base (RXP [x0, x1, x2, x3, x4, x5, x6, x7, x8, x9, x10, x11, x12, x13, x14]) "is_set_of" 26 (List.replicate 2 false) m_is_set_of := ok_is_set_of (fun_mk (st := s_is_set_of) l29 c29 k29) (PySem.W.mg_of X G a29) B XT C__law_word C_tuples_in
  have C_is_set : Cal P w K mg base (RXP [x0, x1, x2, x3, x4, x5, x6, x7, x8, x9, x10, x11, x12, x13, x14]) "is_set" 27 (List.replicate 2 false) m_is_set := ok_is_set (fun_mk (st := s_is_set) l30 c30 k30) (PySem.W.mg_of X G a30) B XT C__law_word C_is_set_of C_look_house
  have C_read_set : Cal P w K mg base (RXP [x0, x1, x2, x3, x4, x5, x6, x7, x8, x9, x10, x11, x12, x13, x14]) "read_set" 28 (List.replicate 2 false) m_read_set := ok_read_set (fun_mk (st := s_read_set) l31 c31 k31) (PySem.W.mg_of X G a31) B XT C__law_word C_is_set C_read_words C_look_text C_look_house
  have C_look_set : Cal P w K mg base (RXP [x0, x1, x2, x3, x4, x5, x6, x7, x8, x9, x10, x11, x12, x13, x14]) "look_set" 27 (List.replicate 2 false) m_look_set := ok_look_set (fun_mk (st := s_look_set) l32 c32 k32) (PySem.W.mg_of X G a32) B XT C__law_word C_is_set_of C_look_house
  have C_show_row : Cal P w K mg base (RXP [x0, x1, x2, x3, x4, x5, x6, x7, x8, x9, x10, x11, x12, x13, x14]) "show_row" 1 (List.replicate 1 false) m_show_row := ok_show_row (fun_mk (st := s_show_row) l33 c33 k33) (PySem.W.mg_of X G a33) B XT C__law_word 
  have C_words_of : Cal P w K mg base (RXP [x0, x1, x2, x3, x4, x5, x6, x7, x8, x9, x10, x11, x12, x13, x14]) "words_of" 15 (List.replicate 1 false) m_words_of := ok_words_of (fun_mk (st := s_words_of) l34 c34 k34) (PySem.W.mg_of X G a34) B XT C__law_word C_show_row
  have C_show_set : Cal P w K mg base (RXP [x0, x1, x2, x3, x4, x5, x6, x7, x8, x9, x10, x11, x12, x13, x14]) "show_set" 28 (List.replicate 2 false) m_show_set := ok_show_set (fun_mk (st := s_show_set) l35 c35 k35) (PySem.W.mg_of X G a35) B XT C__law_word C_words_of C_look_set C_look_house
  exact fnOk_top (ok_law_fn l36 c36 TB rfl B XT C__law_word C_show_set C__law_no_house C__law_no_set C__law_same_set C_read_set C__law_deep C__law_same C__law_set_words C__law_set C__law_take C__law_house_copy C__law_house C__law_bag C__law_cell C__law_answer C__law_refuses)
end Law
namespace Law
open PySem PySem.Spec PyProof.Rows L2 Hap M
section
variable {h : Nat} {L : List (Nat × List Nat)} {R : List Nat}
theorem vcall_ok {n : Nat} {sem : Fn} {fa : Ev → Option (List D)} {ρ o : Ev} {ds es : List D} {d : D} (h1 : fa ρ = some ds) (hn : ds.length = n) (hz : frzs ds = es) (h2 : sem es = .rt d o) (hf : flatD d = true) : vCall n sem fa ρ = some d := by
  unfold vCall
  rw [h1, Option.bind_some, if_pos hn, hz, h2]
  exact if_pos hf
theorem letter_str (H : House h L) {x : Str} (ok : StrOk x) (hb : ∃ c ∈ x.cps.toList, ∀ e ∈ L, c ≠ 97 + e.1) (hl : x.cps.toList.length ≤ 100) : m_is_row [houD false h L, .str x] = .rt (.bl false) [none, none] := by
  have hs : x.cps.toList.length ≤ sizeLine := by unfold sizeLine; omega
  obtain ⟨P, hP⟩ : ∃ P : Nat → Bool, P = fun c => decide ((⟨#[c]⟩ : Str) ∈ L.map fun e => sg e.1) := ⟨_, rfl⟩
  have lc : fLc (fIt itemsS (fVar 1)) (gN 2) fYes (fOp2L gIn 2 (fCall 1 m_letters_of (fCons (fVar 0) fNil))) [2] [some (houD false h L), some (.str x), none] = .ok (.lst true (x.cps.toList.map fun c => .bl (P c))) [some (houD false h L), some (.str x), none] := by
    refine lc_all (g := fun c => .str ⟨#[c]⟩) (by simp [strD]) (by simp) hs fun c hc => ?_
    have hin : gIn (.str ⟨#[c]⟩) (.lst true (L.map fun e => sgD e.1)) = some (.bl (P c)) := by
      have := in_map (f := D.str) (o := true) (xs := L.map fun e => sg e.1) (z := ⟨#[c]⟩) eqd_str (sh_strOk fun b hb => by
        have : b = c := by simpa using hb
        subst this; exact ok b hc) fun y hy => by
        obtain ⟨e, he, rfl⟩ := List.mem_map.mp hy
        exact sh_strOk fun b hb => by
          have : b = 97 + e.1 := by simpa [sg] using hb
          have := H.lt e he; omega
      rw [List.map_map] at this
      rw [hP]; exact this
    exact ⟨[some (houD false h L), some (.str x), some (.str ⟨#[c]⟩)], by simp, [some (houD false h L), some (.str x), some (.str ⟨#[c]⟩)], by simp [letters_spec H.l6, hin], by simp⟩
  have hall : x.cps.toList.all P = false := by
    rw [List.all_eq_false]
    obtain ⟨c, hc, hn⟩ := hb
    refine ⟨c, hc, ?_⟩
    rw [hP]
    simp only [decide_eq_true_eq]
    intro hm
    obtain ⟨e, he, q⟩ := List.mem_map.mp hm
    have : (#[97 + e.1] : Array Nat) = #[c] := congrArg Str.cps q
    simp at this
    exact hn e he this.symm
  have hga := all_map_bl (o := true) P x.cps.toList
  rw [hall] at hga
  unfold m_is_row; rw [semOf_ap]; unfold b_is_row
  simp [look_spec H, lc, hga, -all_l]
theorem row_non (H : House h L) {d : D} (hi : isImm d = true) (hs : gIsi [d, .gv (.ty "str")] = some (.bl false)) : m_is_row [houD false h L, d] = .rt (.bl false) [none, none] := by
  have fd := frz_imm _ hi
  unfold m_is_row; rw [semOf_ap]; unfold b_is_row
  simp [look_spec H, hs, fd]
inductive Hs
  | row (b : Bool) (w : List Nat)
  | neg (a : Hs)
  | two (k : Nat) (a c : Hs)
def wr (b : Bool) : D := .str (if b = true then "again" else "row")
def opD (k : Nat) : D := .str (if k = 0 then "either" else if k = 1 then "both" else "then")
def Hs.d : Hs → D
  | .row b w => .tup [wr b, .str (rowS w)]
  | .neg a => .tup [.str "not", a.d]
  | .two k a c => .tup [opD k, a.d, c.d]
def Hs.subs : Hs → List Hs
  | .row b w => [.row b w]
  | .neg a => .neg a :: a.subs
  | .two k a c => .two k a c :: (a.subs ++ c.subs)
def Hs.dep : Hs → Nat
  | .row _ _ => 1
  | .neg a => a.dep + 1
  | .two _ a c => max a.dep c.dep + 1
def Hs.rows : Hs → Nat
  | .row _ _ => 1
  | .neg a => a.rows
  | .two _ a c => a.rows + c.rows
/-- all rows are rows, none of them long -/
def Hs.fit : Hs → Bool
  | .row _ w => decide (w.length ≤ 4)
  | .neg a => a.fit
  | .two _ a c => a.fit && c.fit
def Hs.Ok (L : List (Nat × List Nat)) : Hs → Prop
  | .row _ w => RowOk L w ∧ w.length ≤ 100
  | .neg a => a.Ok L
  | .two _ a c => a.Ok L ∧ c.Ok L
theorem imm_hs : ∀ s : Hs, isImm s.d = true
  | .row b w => by cases b <;> rfl
  | .neg a => by simp [Hs.d, imm_hs a]
  | .two k a c => by simp [Hs.d, opD, imm_hs a, imm_hs c]
theorem frz_hs (s : Hs) : frz s.d = s.d := frz_imm _ (imm_hs s)
/-- what tuples_in tells -/
def resD : Option (List D) → D
  | none => .non
  | some l => .lst true l
def Tin (h : Nat) (L : List (Nat × List Nat)) (n : Nat) (d : D) (r : Option (List D)) : Prop := r_tuples_in n [houD false h L, d] = .rt (resD r) [none, none] ∧ isImm d = true ∧ ∀ l, r = some l → isImms l = true ∧ l.length ≤ 1000
def prD (p : Str × Nat) : D := .tup [.str p.1, .int (p.2 : Int)]
theorem eqd_pr : EqD prD := fun a b => by
  obtain ⟨a, c⟩ := a
  obtain ⟨b, d⟩ := b
  simp only [prD, toPy, toPys, PyData.eqv, PyData.eqvAll]
  have e1 : (a == b) = decide (a = b) := by rw [Bool.eq_iff_iff, beq_iff_eq, decide_eq_true_eq]
  have e2 : ((c : Int) == (d : Int)) = decide (c = d) := by rw [Bool.eq_iff_iff, beq_iff_eq, decide_eq_true_eq]; omega
  rw [e1, e2]
  by_cases h1 : a = b <;> by_cases h2 : c = d <;> simp [h1, h2]
def kindsL : List (Str × Nat) := [("not", 2), ("either", 3), ("both", 3), ("then", 3)]
theorem kinds_nin {x : Str} {n : Nat} (hx : ∀ c ∈ x.cps.toList, c < 0x110000) : gNin (.tup [.str x, .int (n : Int)]) (.lst true (kindsL.map prD)) = some (.bl (!decide ((x, n) ∈ kindsL))) := by
  have q := nin_map (o := true) (f := prD) (z := (x, n)) (xs := kindsL) eqd_pr (sh_tup (n := 59) fun d hd => by
    simp only [List.mem_cons, List.not_mem_nil, or_false] at hd
    rcases hd with rfl | rfl
    · exact sh_str hx
    · exact sh_int) fun p hp => sh_tup (n := 59) fun d hd => by
    simp only [List.mem_cons, List.not_mem_nil, or_false] at hd
    rcases hd with rfl | rfl
    · unfold kindsL at hp
      simp only [List.mem_cons, List.not_mem_nil, or_false] at hp
      rcases hp with rfl | rfl | rfl | rfl <;> exact sh_str (by decide)
    · exact sh_int
  exact q.trans (congrArg (fun b => some (D.bl (!b))) (decide_eq_decide.mpr Iff.rfl))
theorem tin_leaf {n : Nat} {d : D} (hi : isImm d = true) (hd : gIsi [d, .gv (.ty "tuple")] = some (.bl false)) : Tin h L (n + 1) d none := by
  refine ⟨?_, hi, fun l z => by cases z⟩
  rw [r_tuples_in, semOf_ap]; unfold b_tuples_in
  simp [hd, frz_imm d hi, resD]
theorem tin_short {n : Nat} {ds : List D} (hi : isImms ds = true) (hd : ds.length < 2) : Tin h L (n + 1) (.tup ds) none := by
  have hi' : isImm (.tup ds) = true := hi
  refine ⟨?_, hi', fun l z => by cases z⟩
  have c : ((ds.length : Int) < 2) := by omega
  rw [r_tuples_in, semOf_ap]; unfold b_tuples_in
  simp [frz_imm _ hi', resD, c]
theorem lc_one {v0 v1 v2 v3 v4 : Option D} : fLc (fItC ["not"]) (gN 5) fYes (fTup (fCons (fVar 5) (fCons (fK (.int 2)) fNil))) [5] [v0, v1, v2, v3, v4, none] = .ok (.lst true [.tup [.str "not", .int 2]]) [v0, v1, v2, v3, v4, none] := by
  have hs2 : 2 ≤ sizeLine := by decide
  refine lc_all (g := fun x : Str => .str x) (e := fun x : Str => .tup [.str x, .int 2]) (xs := ["not"]) (by simp) (by simp) (by decide) fun x _ => ?_
  exact ⟨[v0, v1, v2, v3, v4, some (.str x)], by simp, [v0, v1, v2, v3, v4, some (.str x)], by simp [hs2], by simp⟩
theorem lc_three {v0 v1 v2 v3 v4 : Option D} : fLc (fItC ["either", "both", "then"]) (gN 5) fYes (fTup (fCons (fVar 5) (fCons (fK (.int 3)) fNil))) [5] [v0, v1, v2, v3, v4, none] = .ok (.lst true [.tup [.str "either", .int 3], .tup [.str "both", .int 3], .tup [.str "then", .int 3]]) [v0, v1, v2, v3, v4, none] := by
  have hs2 : 2 ≤ sizeLine := by decide
  refine lc_all (g := fun x : Str => .str x) (e := fun x : Str => .tup [.str x, .int 3]) (xs := ["either", "both", "then"]) (by simp) (by simp) (by decide) fun x _ => ?_
  exact ⟨[v0, v1, v2, v3, v4, some (.str x)], by simp, [v0, v1, v2, v3, v4, some (.str x)], by simp [hs2], by simp⟩
theorem add_kinds : gAdd (.lst false [.tup [.str "not", .int 2]]) (.lst false [.tup [.str "either", .int 3], .tup [.str "both", .int 3], .tup [.str "then", .int 3]]) = some (.lst true (kindsL.map prD)) := by
  rw [add_ll, if_pos ⟨⟨rfl, rfl⟩, by decide⟩]; rfl
/-- another word, or another number of sets -/
theorem tin_other {n : Nat} {x : Str} {e : D} {ds : List D} (hi : isImms (e :: ds) = true) (hx : ∀ c ∈ x.cps.toList, c < 0x110000) (h1 : x ∉ [("row" : Str), "again"]) (h2 : (x, (e :: ds).length + 1) ∉ kindsL) : Tin h L (n + 1) (.tup (.str x :: e :: ds)) none := by
  have hi' : isImm (.tup (.str x :: e :: ds)) = true := hi
  have c : ¬ ((((e :: ds).length + 1 : Nat) : Int) < 2) := by simp only [List.length_cons]; omega
  have ix : gIx (.tup (.str x :: e :: ds)) (.int 0) = some (.str x) := by rw [ix_t, at_0]; rfl
  have gl : gLen [.tup (.str x :: e :: ds)] = some (.int (((e :: ds).length + 1 : Nat) : Int)) := rfl
  have kn := kinds_nin (n := (e :: ds).length + 1) hx
  rw [decide_eq_false h2] at kn
  obtain ⟨N, hN⟩ : ∃ N, N = (e :: ds).length + 1 := ⟨_, rfl⟩
  rw [← hN] at c gl kn
  refine ⟨?_, hi', fun l z => by cases z⟩
  obtain ⟨T, hT⟩ : ∃ T, T = D.tup (.str x :: e :: ds) := ⟨_, rfl⟩
  have gi : gIsi [T, .gv (.ty "tuple")] = some (.bl true) := by rw [hT]; rfl
  have gs : gIsi [.str x, .gv (.ty "str")] = some (.bl true) := rfl
  have gc : gInC ["row", "again"] (.str x) = some (.bl false) := by rw [inC_s, decide_eq_false h1]
  rw [← hT] at ix gl hi' ⊢
  have hs2 : 2 ≤ sizeLine := by decide
  have lcs : fLc (fItC ["not"]) (gN 5) fYes (fTup (fCons (fVar 5) (fCons (fK (.int 2)) fNil))) [5] [some (houD false h L), some T, none, none, none, none] = .ok (.lst true [.tup [.str "not", .int 2]]) [some (houD false h L), some T, none, none, none, none] := lc_one
  have lct : fLc (fItC ["either", "both", "then"]) (gN 5) fYes (fTup (fCons (fVar 5) (fCons (fK (.int 3)) fNil))) [5] [some (houD false h L), some T, none, none, none, none] = .ok (.lst true [.tup [.str "either", .int 3], .tup [.str "both", .int 3], .tup [.str "then", .int 3]]) [some (houD false h L), some T, none, none, none, none] := lc_three
  have ak := add_kinds
  rw [r_tuples_in, semOf_ap]; unfold b_tuples_in
  simp [frz_imm _ hi', resD, c, gi, gl, ix, gs, gc, hs2, lcs, lct, ak, kn, frz]
theorem tin_row {n : Nat} (H : House h L) {b : Bool} {w : List Nat} (hw : RowOk L w) (hl : w.length ≤ 100) : Tin h L (n + 1) (Hs.row b w).d (if w.length ≤ 4 then some [(Hs.row b w).d] else none) := by
  have ir := isrow_spec H hw (show w.length ≤ sizeLine by unfold sizeLine; omega)
  have hi := imm_hs (.row b w)
  have gs : gIsi [wr b, .gv (.ty "str")] = some (.bl true) := rfl
  have gc : gInC ["row", "again"] (wr b) = some (.bl true) := by cases b <;> rfl
  have hs : w.length ≤ sizeLine := by unfold sizeLine; omega
  have hs1 : 1 ≤ sizeLine := by decide
  obtain ⟨T, hT⟩ : ∃ T, T = (Hs.row b w).d := ⟨_, rfl⟩
  have gi : gIsi [T, .gv (.ty "tuple")] = some (.bl true) := by rw [hT]; rfl
  have i0 : gIx T (.int 0) = some (wr b) := by rw [hT]; rfl
  have i1 : gIx T (.int 1) = some (.str (rowS w)) := by rw [hT]; rfl
  have gl : gLen [T] = some (.int 2) := by rw [hT]; rfl
  rw [← hT] at hi ⊢
  have fT := frz_imm _ hi
  by_cases c : w.length ≤ 4
  · have c' : (w.length : Int) ≤ 4 := by omega
    rw [if_pos c]
    refine ⟨?_, hi, fun l z => by cases z; exact ⟨by simp [hi], by simp⟩⟩
    rw [r_tuples_in, semOf_ap]; unfold b_tuples_in
    simp [fT, hi, resD, gi, gl, i0, i1, gs, gc, ir, hs, rowS_len, c', hs1]
  · have c' : ¬ (w.length : Int) ≤ 4 := by omega
    rw [if_neg c]
    refine ⟨?_, hi, fun l z => by cases z⟩
    rw [r_tuples_in, semOf_ap]; unfold b_tuples_in
    simp [fT, hi, resD, gi, gl, i0, i1, gs, gc, ir, hs, rowS_len, c']
theorem tin_norow {n : Nat} {b : Bool} {e : D} {ds : List D} (hi : isImms (e :: ds) = true) (hr : ds = [] → m_is_row [houD false h L, e] = .rt (.bl false) [none, none]) : Tin h L (n + 1) (.tup (wr b :: e :: ds)) none := by
  have hi' : isImm (.tup (wr b :: e :: ds)) = true := by cases b <;> exact hi
  have gs : gIsi [wr b, .gv (.ty "str")] = some (.bl true) := rfl
  have gc : gInC ["row", "again"] (wr b) = some (.bl true) := by cases b <;> rfl
  have ie : isImm e = true := by simp only [isImms, Bool.and_eq_true] at hi; exact hi.1
  have fe := frz_imm _ ie
  obtain ⟨N, hN⟩ : ∃ N, N = ds.length + 2 := ⟨_, rfl⟩
  have c : ¬ ((N : Int) < 2) := by omega
  obtain ⟨T, hT⟩ : ∃ T, T = D.tup (wr b :: e :: ds) := ⟨_, rfl⟩
  have gi : gIsi [T, .gv (.ty "tuple")] = some (.bl true) := by rw [hT]; rfl
  have i0 : gIx T (.int 0) = some (wr b) := by rw [hT, ix_t, at_0]; rfl
  have i1 : gIx T (.int 1) = some e := by rw [hT, ix_t, at_1]; rfl
  have gl : gLen [T] = some (.int (N : Int)) := by rw [hT, hN]; rfl
  rw [← hT] at hi' ⊢
  have fT := frz_imm _ hi'
  refine ⟨?_, hi', fun l z => by cases z⟩
  rw [r_tuples_in, semOf_ap]; unfold b_tuples_in
  by_cases hd : ds = []
  · have hN2 : N = 2 := by rw [hN, hd]; rfl
    subst hN2
    have := hr hd
    simp [fT, fe, ie, hi', resD, gi, gl, i0, i1, gs, gc, this]
  · have hN2 : ¬ N = 2 := fun z => hd (List.length_eq_zero_iff.mp (by omega))
    have hN3 : ¬ ((N : Int) = 2) := by omega
    simp [fT, fe, ie, hi', resD, gi, gl, i0, i1, gs, gc, c, hN2, hN3]
theorem tin_not {n : Nat} {a : D} {r : Option (List D)} (t : Tin h L n a r) (hr : ∀ l, r = some l → l.length < 1000) : Tin h L (n + 1) (.tup [.str "not", a]) (r.map fun l => .tup [.str "not", a] :: l) := by
  obtain ⟨t, ia, hl⟩ := t
  have hi : isImm (.tup [.str "not", a]) = true := by simp [ia]
  have gs : gIsi [.str "not", .gv (.ty "str")] = some (.bl true) := rfl
  have gc : gInC ["row", "again"] (.str "not") = some (.bl false) := rfl
  have fa := frz_imm _ ia
  have kn := kinds_nin (x := "not") (n := 2) (by decide)
  rw [decide_eq_true (by decide : ((("not" : Str), 2) ∈ kindsL))] at kn
  have hs1 : 1 ≤ sizeLine := by decide
  have hs2 : 2 ≤ sizeLine := by decide
  obtain ⟨T, hT⟩ : ∃ T, T = D.tup [.str "not", a] := ⟨_, rfl⟩
  have gi : gIsi [T, .gv (.ty "tuple")] = some (.bl true) := by rw [hT]; rfl
  have i0 : gIx T (.int 0) = some (.str "not") := by rw [hT]; rfl
  have gl : gLen [T] = some (.int 2) := by rw [hT]; rfl
  have sl : gSl T (some 1) none = some (.tup [a]) := by
    rw [hT]
    show (if isImms [D.str "not", a] = true ∧ ¬ _ then _ else _) = _
    rw [if_pos ⟨hi, (by decide : ¬ (HT.sIx 2 0 (some 1) = 0 ∧ HT.sIx 2 2 none = 2))⟩]; rfl
  rw [← hT] at hi ⊢
  have fT := frz_imm _ hi
  have lcs : fLc (fItC ["not"]) (gN 5) fYes (fTup (fCons (fVar 5) (fCons (fK (.int 2)) fNil))) [5] [some (houD false h L), some T, none, none, none, none] = .ok (.lst true [.tup [.str "not", .int 2]]) [some (houD false h L), some T, none, none, none, none] := lc_one
  have lct : fLc (fItC ["either", "both", "then"]) (gN 5) fYes (fTup (fCons (fVar 5) (fCons (fK (.int 3)) fNil))) [5] [some (houD false h L), some T, none, none, none, none] = .ok (.lst true [.tup [.str "either", .int 3], .tup [.str "both", .int 3], .tup [.str "then", .int 3]]) [some (houD false h L), some T, none, none, none, none] := lc_three
  have ak := add_kinds
  have kn : gNin (.tup [.str "not", .int 2]) (.lst true (kindsL.map prD)) = some (.bl false) := kn
  have is1 : gIs' .non .non = some (.bl true) := rfl
  have is2 : ∀ l, gIs' (.lst true l) .non = some (.bl false) := fun _ => rfl
  cases r with
  | none =>
    have t : r_tuples_in n [houD false h L, a] = .rt .non [none, none] := t
    refine ⟨?_, hi, fun l z => by cases z⟩
    rw [r_tuples_in, semOf_ap]; unfold b_tuples_in l_tuples_in_1
    simp [fT, hi, ia, resD, gi, gl, i0, gs, gc, sl, kn, hs1, hs2, lcs, lct, ak, fa, t, loopS, stepS, is1, is2, frz]
  | some l =>
    have t : r_tuples_in n [houD false h L, a] = .rt (.lst true l) [none, none] := t
    have hz := hr l rfl
    have hz' : 1 + l.length ≤ sizeLine := by unfold sizeLine; omega
    refine ⟨?_, hi, fun l' z => by cases z; exact ⟨by simp [hi, (hl l rfl).1], by simp; omega⟩⟩
    rw [r_tuples_in, semOf_ap]; unfold b_tuples_in l_tuples_in_1
    simp [fT, hi, ia, resD, gi, gl, i0, gs, gc, sl, kn, hs1, hs2, lcs, lct, ak, fa, t, loopS, stepS, is1, is2, hz', frz]
theorem op_word (k : Nat) : ∃ w : Str, opD k = .str w ∧ (w, 3) ∈ kindsL ∧ w ∉ [("row" : Str), "again"] ∧ ∀ c ∈ w.cps.toList, c < 0x110000 := by
  unfold opD
  by_cases c : k = 0
  · rw [if_pos c]; exact ⟨_, rfl, by decide, by decide, by decide⟩
  · rw [if_neg c]
    by_cases c : k = 1
    · rw [if_pos c]; exact ⟨_, rfl, by decide, by decide, by decide⟩
    · rw [if_neg c]; exact ⟨_, rfl, by decide, by decide, by decide⟩
theorem tin_two {n : Nat} {a b : D} {la lb : List D} (k : Nat) (ta : Tin h L n a (some la)) (tb : Tin h L n b (some lb)) (hz : 1 + la.length + lb.length ≤ 1000) : Tin h L (n + 1) (.tup [opD k, a, b]) (some (.tup [opD k, a, b] :: (la ++ lb))) := by
  obtain ⟨ta, ia, hla⟩ := ta
  obtain ⟨tb, ib, hlb⟩ := tb
  have ta : r_tuples_in n [houD false h L, a] = .rt (.lst true la) [none, none] := ta
  have tb : r_tuples_in n [houD false h L, b] = .rt (.lst true lb) [none, none] := tb
  have z1 : 1 + la.length ≤ sizeLine := by unfold sizeLine; omega
  have z2 : la.length + 1 + lb.length ≤ sizeLine := by unfold sizeLine; omega
  have z3 : 1 + la.length + lb.length ≤ sizeLine := by unfold sizeLine; omega
  have il := (hla la rfl).1
  have ill := (hlb lb rfl).1
  obtain ⟨w, hw, hk, hm, hx⟩ := op_word k
  rw [hw]
  have hi : isImm (.tup [.str w, a, b]) = true := by simp [ia, ib]
  have gs : gIsi [.str w, .gv (.ty "str")] = some (.bl true) := rfl
  have gc : gInC ["row", "again"] (.str w) = some (.bl false) := by rw [inC_s, decide_eq_false hm]
  have fa := frz_imm _ ia
  have fb := frz_imm _ ib
  have kn := kinds_nin (x := w) (n := 3) hx
  rw [decide_eq_true hk] at kn
  have hs1 : 1 ≤ sizeLine := by decide
  have hs2 : 2 ≤ sizeLine := by decide
  obtain ⟨T, hT⟩ : ∃ T, T = D.tup [.str w, a, b] := ⟨_, rfl⟩
  have gi : gIsi [T, .gv (.ty "tuple")] = some (.bl true) := by rw [hT]; rfl
  have i0 : gIx T (.int 0) = some (.str w) := by rw [hT]; rfl
  have gl : gLen [T] = some (.int 3) := by rw [hT]; rfl
  have sl : gSl T (some 1) none = some (.tup [a, b]) := by
    rw [hT]
    show (if isImms [D.str w, a, b] = true ∧ ¬ _ then _ else _) = _
    rw [if_pos ⟨hi, (by decide : ¬ (HT.sIx 3 0 (some 1) = 0 ∧ HT.sIx 3 3 none = 3))⟩]; rfl
  rw [← hT] at hi ⊢
  have fT := frz_imm _ hi
  have lcs : fLc (fItC ["not"]) (gN 5) fYes (fTup (fCons (fVar 5) (fCons (fK (.int 2)) fNil))) [5] [some (houD false h L), some T, none, none, none, none] = .ok (.lst true [.tup [.str "not", .int 2]]) [some (houD false h L), some T, none, none, none, none] := lc_one
  have lct : fLc (fItC ["either", "both", "then"]) (gN 5) fYes (fTup (fCons (fVar 5) (fCons (fK (.int 3)) fNil))) [5] [some (houD false h L), some T, none, none, none, none] = .ok (.lst true [.tup [.str "either", .int 3], .tup [.str "both", .int 3], .tup [.str "then", .int 3]]) [some (houD false h L), some T, none, none, none, none] := lc_three
  have ak := add_kinds
  have kn : gNin (.tup [.str w, .int 3]) (.lst true (kindsL.map prD)) = some (.bl false) := kn
  have is1 : gIs' .non .non = some (.bl true) := rfl
  have is2 : ∀ l, gIs' (.lst true l) .non = some (.bl false) := fun _ => rfl
  refine ⟨?_, hi, fun l' z => by cases z; exact ⟨by simp [hi, il, ill, isImms_app], by simp; omega⟩⟩
  · skip
    rw [r_tuples_in, semOf_ap]; unfold b_tuples_in l_tuples_in_1
    simp [fT, hi, ia, ib, resD, gi, gl, i0, gs, gc, sl, kn, hs1, hs2, lcs, lct, ak, fa, fb, ta, tb, z1, z2, z3,  loopS, stepS, is1, is2, frz]
theorem tin_two1 {n : Nat} {a b : D} (k : Nat) (ta : Tin h L n a none) (ib : isImm b = true) : Tin h L (n + 1) (.tup [opD k, a, b]) none := by
  obtain ⟨ta, ia, -⟩ := ta
  have ta : r_tuples_in n [houD false h L, a] = .rt .non [none, none] := ta
  obtain ⟨w, hw, hk, hm, hx⟩ := op_word k
  rw [hw]
  have hi : isImm (.tup [.str w, a, b]) = true := by simp [ia, ib]
  have gs : gIsi [.str w, .gv (.ty "str")] = some (.bl true) := rfl
  have gc : gInC ["row", "again"] (.str w) = some (.bl false) := by rw [inC_s, decide_eq_false hm]
  have fa := frz_imm _ ia
  have fb := frz_imm _ ib
  have kn := kinds_nin (x := w) (n := 3) hx
  rw [decide_eq_true hk] at kn
  have hs1 : 1 ≤ sizeLine := by decide
  have hs2 : 2 ≤ sizeLine := by decide
  obtain ⟨T, hT⟩ : ∃ T, T = D.tup [.str w, a, b] := ⟨_, rfl⟩
  have gi : gIsi [T, .gv (.ty "tuple")] = some (.bl true) := by rw [hT]; rfl
  have i0 : gIx T (.int 0) = some (.str w) := by rw [hT]; rfl
  have gl : gLen [T] = some (.int 3) := by rw [hT]; rfl
  have sl : gSl T (some 1) none = some (.tup [a, b]) := by
    rw [hT]
    show (if isImms [D.str w, a, b] = true ∧ ¬ _ then _ else _) = _
    rw [if_pos ⟨hi, (by decide : ¬ (HT.sIx 3 0 (some 1) = 0 ∧ HT.sIx 3 3 none = 3))⟩]; rfl
  rw [← hT] at hi ⊢
  have fT := frz_imm _ hi
  have lcs : fLc (fItC ["not"]) (gN 5) fYes (fTup (fCons (fVar 5) (fCons (fK (.int 2)) fNil))) [5] [some (houD false h L), some T, none, none, none, none] = .ok (.lst true [.tup [.str "not", .int 2]]) [some (houD false h L), some T, none, none, none, none] := lc_one
  have lct : fLc (fItC ["either", "both", "then"]) (gN 5) fYes (fTup (fCons (fVar 5) (fCons (fK (.int 3)) fNil))) [5] [some (houD false h L), some T, none, none, none, none] = .ok (.lst true [.tup [.str "either", .int 3], .tup [.str "both", .int 3], .tup [.str "then", .int 3]]) [some (houD false h L), some T, none, none, none, none] := lc_three
  have ak := add_kinds
  have kn : gNin (.tup [.str w, .int 3]) (.lst true (kindsL.map prD)) = some (.bl false) := kn
  have is1 : gIs' .non .non = some (.bl true) := rfl
  have is2 : ∀ l, gIs' (.lst true l) .non = some (.bl false) := fun _ => rfl
  refine ⟨?_, hi, fun l z => by cases z⟩
  · skip
    rw [r_tuples_in, semOf_ap]; unfold b_tuples_in l_tuples_in_1
    simp [fT, hi, ia, ib, resD, gi, gl, i0, gs, gc, sl, kn, hs1, hs2, lcs, lct, ak, fa, fb, ta,  loopS, stepS, is1, is2, frz]
theorem tin_two2 {n : Nat} {a b : D} {la : List D} (k : Nat) (ta : Tin h L n a (some la)) (tb : Tin h L n b none) : Tin h L (n + 1) (.tup [opD k, a, b]) none := by
  obtain ⟨ta, ia, hla⟩ := ta
  obtain ⟨tb, ib, -⟩ := tb
  have ta : r_tuples_in n [houD false h L, a] = .rt (.lst true la) [none, none] := ta
  have tb : r_tuples_in n [houD false h L, b] = .rt .non [none, none] := tb
  have z1 : 1 + la.length ≤ sizeLine := by have := (hla la rfl).2; unfold sizeLine; omega
  obtain ⟨w, hw, hk, hm, hx⟩ := op_word k
  rw [hw]
  have hi : isImm (.tup [.str w, a, b]) = true := by simp [ia, ib]
  have gs : gIsi [.str w, .gv (.ty "str")] = some (.bl true) := rfl
  have gc : gInC ["row", "again"] (.str w) = some (.bl false) := by rw [inC_s, decide_eq_false hm]
  have fa := frz_imm _ ia
  have fb := frz_imm _ ib
  have kn := kinds_nin (x := w) (n := 3) hx
  rw [decide_eq_true hk] at kn
  have hs1 : 1 ≤ sizeLine := by decide
  have hs2 : 2 ≤ sizeLine := by decide
  obtain ⟨T, hT⟩ : ∃ T, T = D.tup [.str w, a, b] := ⟨_, rfl⟩
  have gi : gIsi [T, .gv (.ty "tuple")] = some (.bl true) := by rw [hT]; rfl
  have i0 : gIx T (.int 0) = some (.str w) := by rw [hT]; rfl
  have gl : gLen [T] = some (.int 3) := by rw [hT]; rfl
  have sl : gSl T (some 1) none = some (.tup [a, b]) := by
    rw [hT]
    show (if isImms [D.str w, a, b] = true ∧ ¬ _ then _ else _) = _
    rw [if_pos ⟨hi, (by decide : ¬ (HT.sIx 3 0 (some 1) = 0 ∧ HT.sIx 3 3 none = 3))⟩]; rfl
  rw [← hT] at hi ⊢
  have fT := frz_imm _ hi
  have lcs : fLc (fItC ["not"]) (gN 5) fYes (fTup (fCons (fVar 5) (fCons (fK (.int 2)) fNil))) [5] [some (houD false h L), some T, none, none, none, none] = .ok (.lst true [.tup [.str "not", .int 2]]) [some (houD false h L), some T, none, none, none, none] := lc_one
  have lct : fLc (fItC ["either", "both", "then"]) (gN 5) fYes (fTup (fCons (fVar 5) (fCons (fK (.int 3)) fNil))) [5] [some (houD false h L), some T, none, none, none, none] = .ok (.lst true [.tup [.str "either", .int 3], .tup [.str "both", .int 3], .tup [.str "then", .int 3]]) [some (houD false h L), some T, none, none, none, none] := lc_three
  have ak := add_kinds
  have kn : gNin (.tup [.str w, .int 3]) (.lst true (kindsL.map prD)) = some (.bl false) := kn
  have is1 : gIs' .non .non = some (.bl true) := rfl
  have is2 : ∀ l, gIs' (.lst true l) .non = some (.bl false) := fun _ => rfl
  refine ⟨?_, hi, fun l z => by cases z⟩
  · skip
    rw [r_tuples_in, semOf_ap]; unfold b_tuples_in l_tuples_in_1
    simp [fT, hi, ia, ib, resD, gi, gl, i0, gs, gc, sl, kn, hs1, hs2, lcs, lct, ak, fa, fb, ta, tb, z1,  loopS, stepS, is1, is2, frz]
@[simp] theorem isn_n : gIs' .non .non = some (.bl true) := rfl
@[simp] theorem isn_l {o : Bool} {l : List D} : gIs' (.lst o l) .non = some (.bl false) := rfl
def Hs.isRow : Hs → Bool
  | .row _ _ => true
  | _ => false
def Hs.size (s : Hs) : Nat := s.subs.length
theorem size_neg (a : Hs) : (Hs.neg a).size = a.size + 1 := rfl
theorem size_two (k : Nat) (a c : Hs) : (Hs.two k a c).size = a.size + c.size + 1 := by simp [Hs.size, Hs.subs]
theorem rows_eq : ∀ s : Hs, (s.subs.filter Hs.isRow).length = s.rows
  | .row _ _ => rfl
  | .neg a => by rw [Hs.subs, List.filter_cons, if_neg (by simp [Hs.isRow]), rows_eq a]; rfl
  | .two _ a c => by rw [Hs.subs, List.filter_cons, if_neg (by simp [Hs.isRow]), List.filter_append, List.length_append, rows_eq a, rows_eq c]; rfl
theorem head_in (s : Hs) : ∃ x : Str, gIx s.d (.int 0) = some (.str x) ∧ gInC ["row", "again"] (.str x) = some (.bl s.isRow) := by
  cases s with
  | row b w => cases b <;> exact ⟨_, rfl, rfl⟩
  | neg a => exact ⟨_, rfl, rfl⟩
  | two k a c =>
    refine ⟨_, rfl, ?_⟩
    by_cases h0 : k = 0
    · subst h0; rfl
    · by_cases h1 : k = 1
      · subst h1; rfl
      · rw [if_neg h0, if_neg h1]; rfl
/-- whether a set of fitting rows is a set -/
theorem issetof_spec {s : Hs} (hs : s.size ≤ 1000) (t : Tin h L 18 s.d (if s.fit = true then some (s.subs.map Hs.d) else none)) : m_is_set_of [houD false h L, s.d] = .rt (.bl (s.fit && decide (s.size ≤ 12) && decide (s.rows ≤ 5))) [none, none] := by
  obtain ⟨t, hi, _⟩ := t
  have t : m_tuples_in [houD false h L, s.d] = _ := t
  have fs := frz_imm _ hi
  by_cases c : s.fit = true
  · rw [if_pos c] at t
    have lc : fLc (fIt itemsL (fVar 2)) (gN 3) (fTv (vOp1 (gInC ["row", "again"]) (vOp2 gIx (vVar 3) (vK (.int 0))))) (fVar 3) [3] [some (houD false h L), some s.d, some (.lst true (s.subs.map Hs.d)), none]
        = .ok (.lst true ((s.subs.filter Hs.isRow).map Hs.d)) [some (houD false h L), some s.d, some (.lst false (s.subs.map Hs.d)), none] := by
      have fz : frzs (s.subs.map Hs.d) = s.subs.map Hs.d := frzs_mapf fun a _ => frz_hs a
      refine lc_map (g := Hs.d) (p := Hs.isRow) (e := Hs.d) (by simp [fz]) (by simp) (by have : s.subs.length = s.size := rfl; unfold sizeLine; omega) fun a ha => ?_
      obtain ⟨x, x1, x2⟩ := head_in a
      have ia := imm_hs a
      have fa := frz_hs a
      refine ⟨[some (houD false h L), some s.d, some (.lst false (s.subs.map Hs.d)), some a.d], by simp, [some (houD false h L), some s.d, some (.lst false (s.subs.map Hs.d)), some a.d], by simp [x1, x2], fun _ => ⟨[some (houD false h L), some s.d, some (.lst false (s.subs.map Hs.d)), some a.d], by simp [fa, ia], by simp⟩, fun _ => by simp⟩
    have gl : gLen [.lst true ((s.subs.filter Hs.isRow).map Hs.d)] = some (.int (s.rows : Int)) := by rw [len_l, List.length_map, rows_eq]
    have gl0 : gLen [.lst true (s.subs.map Hs.d)] = some (.int (s.size : Int)) := by rw [len_l, List.length_map]; rfl
    unfold m_is_set_of; rw [semOf_ap]; unfold b_is_set_of
    by_cases c1 : s.size ≤ 12
    · have c1' : ¬ (12 : Int) < (s.size : Int) := by omega
      by_cases c2 : s.rows ≤ 5
      · have c2' : (s.rows : Int) ≤ 5 := by omega
        simp [fs, t, resD, gl0, lc, gl, c, c1, c2, c1', c2', -len_l]
      · have c2' : ¬ (s.rows : Int) ≤ 5 := by omega
        simp [fs, t, resD, gl0, lc, gl, c, c1, c2, c1', c2', -len_l]
    · have c1' : (12 : Int) < (s.size : Int) := by omega
      simp [fs, t, resD, gl0, c, c1, c1', -len_l]
  · rw [if_neg c] at t
    have c0 : s.fit = false := by cases e : s.fit with
      | false => rfl
      | true => exact (c e).elim
    unfold m_is_set_of; rw [semOf_ap]; unfold b_is_set_of
    simp [fs, t, resD, c0]
theorem issetof_none {d : D} (t : Tin h L 18 d none) : m_is_set_of [houD false h L, d] = .rt (.bl false) [none, none] := by
  obtain ⟨t, hi, _⟩ := t
  have t : m_tuples_in [houD false h L, d] = _ := t
  have fs := frz_imm _ hi
  unfold m_is_set_of; rw [semOf_ap]; unfold b_is_set_of
  simp [fs, t, resD]
theorem isset_spec (H : House h L) {d : D} {b : Bool} (hi : isImm d = true) (t : m_is_set_of [houD false h L, d] = .rt (.bl b) [none, none]) : m_is_set [houD false h L, d] = .rt (.bl b) [none, none] := by
  have fs := frz_imm _ hi
  unfold m_is_set; rw [semOf_ap]; unfold b_is_set
  simp [look_spec H, fs, t]
theorem tin_hs (H : House h L) : ∀ (s : Hs), s.Ok L → s.size ≤ 500 → ∀ n, s.dep ≤ n → Tin h L n s.d (if s.fit = true then some (s.subs.map Hs.d) else none)
  | .row b w, ok, _, n, hn => by
    cases n with
    | zero => simp [Hs.dep] at hn
    | succ n =>
      have := tin_row (n := n) H (b := b) ok.1 ok.2
      by_cases c : w.length ≤ 4
      · rw [if_pos c] at this
        rw [if_pos (show (Hs.row b w).fit = true from decide_eq_true c)]; exact this
      · rw [if_neg c] at this
        rw [if_neg (show ¬ (Hs.row b w).fit = true from fun z => c (of_decide_eq_true z))]; exact this
  | .neg a, ok, hz, n, hn => by
    cases n with
    | zero => simp [Hs.dep] at hn
    | succ n =>
      rw [size_neg] at hz
      have ih := tin_hs H a ok (by omega) n (by simp only [Hs.dep] at hn; omega)
      have := tin_not ih (fun l e => by
        by_cases c : a.fit = true
        · rw [if_pos c] at e; cases e; rw [List.length_map]; have : a.subs.length = a.size := rfl; omega
        · rw [if_neg c] at e; cases e)
      by_cases c : a.fit = true
      · rw [if_pos c] at this
        rw [if_pos (show (Hs.neg a).fit = true from c)]; exact this
      · rw [if_neg c] at this
        rw [if_neg (show ¬ (Hs.neg a).fit = true from c)]; exact this
  | .two k a c, ok, hz, n, hn => by
    cases n with
    | zero => simp [Hs.dep] at hn
    | succ n =>
      rw [size_two] at hz
      simp only [Hs.dep] at hn
      have iha := tin_hs H a ok.1 (by omega) n (by omega)
      have ihc := tin_hs H c ok.2 (by omega) n (by omega)
      by_cases ca : a.fit = true
      · rw [if_pos ca] at iha
        by_cases cc : c.fit = true
        · rw [if_pos cc] at ihc
          have := tin_two k iha ihc (by rw [List.length_map, List.length_map]; have e1 : a.subs.length = a.size := rfl; have e2 : c.subs.length = c.size := rfl; omega)
          rw [if_pos (show (Hs.two k a c).fit = true by simp [Hs.fit, ca, cc])]
          rw [Hs.subs, List.map_cons, List.map_append]; exact this
        · rw [if_neg cc] at ihc
          rw [if_neg (show ¬ (Hs.two k a c).fit = true by simp [Hs.fit, cc])]
          exact tin_two2 k iha ihc
      · rw [if_neg ca] at iha
        rw [if_neg (show ¬ (Hs.two k a c).fit = true by simp [Hs.fit, ca])]
        exact tin_two1 k iha (imm_hs c)
def opS (k : Nat) : Str := if k = 0 then "either" else if k = 1 then "both" else "then"
theorem opD_s (k : Nat) : opD k = .str (opS k) := rfl
def wrS (b : Bool) : Str := if b = true then "again" else "row"
theorem wr_s (b : Bool) : wr b = .str (wrS b) := rfl
def rwS (w : List Nat) : Str := if w = [] then "-" else rowS w
def Hs.ws : Hs → List Str
  | .row b w => [wrS b, rwS w]
  | .neg a => "not" :: a.ws
  | .two k a c => opS k :: (a.ws ++ c.ws)
inductive Tk
  | row (b : Bool) (w : List Nat)
  | neg
  | two (k : Nat)
def Tk.ws : Tk → List Str
  | .row b w => [wrS b, rwS w]
  | .neg => ["not"]
  | .two k => [opS k]
def Hs.tk : Hs → List Tk
  | .row b w => [.row b w]
  | .neg a => .neg :: a.tk
  | .two k a c => .two k :: (a.tk ++ c.tk)
theorem tk_ws : ∀ s : Hs, s.tk.flatMap Tk.ws = s.ws
  | .row b w => rfl
  | .neg a => by simp [Hs.tk, Hs.ws, Tk.ws, tk_ws a]
  | .two k a c => by simp [Hs.tk, Hs.ws, Tk.ws, tk_ws a, tk_ws c]
theorem tk_len : ∀ s : Hs, s.tk.length = s.size
  | .row b w => rfl
  | .neg a => by rw [size_neg]; simp [Hs.tk, tk_len a]
  | .two k a c => by rw [size_two]; simp [Hs.tk, tk_len a, tk_len c]
/-- what waits -/
inductive Fr
  | neg
  | two0 (k : Nat)
  | two1 (k : Nat) (a : Hs)
def Fr.d : Fr → D
  | .neg => .tup [.str "not"]
  | .two0 k => .tup [opD k]
  | .two1 k a => .tup [opD k, a.d]
def absorb : List Fr → Hs → List Fr ⊕ Hs
  | [], s => .inr s
  | .neg :: fs, s => absorb fs (.neg s)
  | .two0 k :: fs, s => .inl (.two1 k s :: fs)
  | .two1 k a :: fs, s => absorb fs (.two k a s)
def stepT (fs : List Fr) : Tk → List Fr ⊕ Hs
  | .row b w => absorb fs (.row b w)
  | .neg => .inl (.neg :: fs)
  | .two k => .inl (.two0 k :: fs)
def runT : List Fr → List Tk → Option (List Fr ⊕ Hs)
  | fs, [] => some (.inl fs)
  | fs, t :: ts => match stepT fs t with
    | .inl fs' => runT fs' ts
    | .inr s => match ts with
      | [] => some (.inr s)
      | _ :: _ => none
theorem run_hs : ∀ (s : Hs) (fs : List Fr) (ts : List Tk), runT fs (s.tk ++ ts) = match absorb fs s with
    | .inl fs' => runT fs' ts
    | .inr r => match ts with
      | [] => some (.inr r)
      | _ :: _ => none
  | .row b w, fs, ts => rfl
  | .neg a, fs, ts => by
    show runT (.neg :: fs) (a.tk ++ ts) = _
    rw [run_hs a]; rfl
  | .two k a c, fs, ts => by
    show runT (.two0 k :: fs) ((a.tk ++ c.tk) ++ ts) = _
    rw [List.append_assoc, run_hs a]
    show runT (.two1 k a :: fs) (c.tk ++ ts) = _
    rw [run_hs c]; rfl
theorem run_all (s : Hs) : runT [] s.tk = some (.inr s) := by
  have := run_hs s [] []
  rw [List.append_nil] at this
  exact this
def partsL : List (Str × List Int) := [("row", [(0 : Int), 1]), ("again", [(0 : Int), 1]), ("not", [(1 : Int), 0]), ("either", [(2 : Int), 0]), ("both", [(2 : Int), 0]), ("then", [(2 : Int), 0])]
theorem parts_row (b : Bool) : partsL.lookup (wrS b) = some [0, 1] := by cases b <;> decide +kernel
theorem parts_not : partsL.lookup ("not" : Str) = some [1, 0] := by decide +kernel
theorem parts_op (k : Nat) : partsL.lookup (opS k) = some [2, 0] := by
  unfold opS
  split
  · decide +kernel
  · split <;> decide +kernel
theorem isdone_hs (s : Hs) : m_is_done [s.d] = .rt (.bl true) [none] := by
  have s2 : 2 ≤ sizeLine := by decide
  have s3 : 3 ≤ sizeLine := by decide
  have e : b_is_done = (fRet (fI (vOp2 gEq (vOpN gLen (vCons (vVar 0) vNil)) (vOp2 gAdd (vK (.int 1)) (vOp1 (gPsum partsL) (vOp2 gIx (vVar 0) (vK (.int 0)))))))) := rfl
  unfold m_is_done; rw [semOf_ap, e]
  cases s with
  | row b w => simp [Hs.d, wr_s, parts_row, s2]
  | neg a => simp [Hs.d, parts_not, s2]
  | two k a c => simp [Hs.d, opD_s, parts_op, s3]
theorem isdone_fr (f : Fr) : m_is_done [f.d] = .rt (.bl false) [none] := by
  have s1 : 1 ≤ sizeLine := by decide
  have s2 : 2 ≤ sizeLine := by decide
  have e : b_is_done = (fRet (fI (vOp2 gEq (vOpN gLen (vCons (vVar 0) vNil)) (vOp2 gAdd (vK (.int 1)) (vOp1 (gPsum partsL) (vOp2 gIx (vVar 0) (vK (.int 0)))))))) := rfl
  unfold m_is_done; rw [semOf_ap, e]
  cases f with
  | neg => simp [Fr.d, parts_not, s1]
  | two0 k => simp [Fr.d, opD_s, parts_op, s1]
  | two1 k a => simp [Fr.d, opD_s, parts_op, s2]
theorem readrow_spec {w : List Nat} (hw : ∀ l ∈ w, l < 26) (hl : w.length ≤ 100) : m_read_row [.str (rwS w)] = .rt (.str (rowS w)) [none] := by
  by_cases c : w = []
  · subst c
    have e1 : gEq (.str "-") (.str "-") = some (.bl true) := rfl
    have e2 : rwS [] = "-" := rfl
    rw [e2]
    unfold m_read_row; rw [semOf_ap]; unfold b_read_row
    simp [e1, rowS_nil]
  · have e2 : rwS w = rowS w := if_neg c
    rw [e2]
    have n1 : gEq (.str (rowS w)) (.str "-") = some (.bl false) := by
      have : ¬ rowS w = "-" := fun z => by
        cases w with
        | nil => exact c rfl
        | cons l w =>
          have e3 : (rowS (l :: w)).cps.toList = (97 + l) :: w.map (97 + ·) := by simp [rowS]
          have e4 : ("-" : Str).cps.toList = [45] := by decide +kernel
          rw [z, e4] at e3
          injection e3 with e3 _
          omega
      rw [eq_ss]; simp [this]
    have n2 : gEq (.str (rowS w)) (.str "") = some (.bl false) := by
      have : ¬ rowS w = "" := fun z => by
        have := congrArg Str.length z
        rw [rowS_len] at this
        exact c (List.length_eq_zero_iff.mp this)
      rw [eq_ss]; simp [this]
    have it : itemsS (.str (rowS w)) = some (w.map sgD) := by
      show some (strD (rowS w)) = _
      rw [strD_row]
    have hin : ∀ l, l < 26 → gNin (sgD l) (.str (Str.ofString "abcdefghijklmnopqrstuvwxyz")) = some (.bl false) := fun l hl => by
      show (some (decide ((97 + l) ∈ (Str.ofString "abcdefghijklmnopqrstuvwxyz").cps.toList))).map (fun b => D.bl (!b)) = _
      have := abc_in hl
      have e : (some (decide ((97 + l) ∈ (Str.ofString "abcdefghijklmnopqrstuvwxyz").cps.toList))).map D.bl = some (.bl true) := this
      simp only [Option.map_some, Option.some.injEq, D.bl.injEq] at e ⊢
      rw [e]; rfl
    obtain ⟨ρ', lp, v1, e⟩ := loopM (step := stepS (gN 1) l_read_row_1) (f := sgD) (xs := w) (ρ := [some (.str (rowS w)), none])
      (fun k ρ => ∃ v1, ρ = [some (.str (rowS w)), v1]) ⟨none, rfl⟩ (by
        rintro j x ρ hj ⟨v1, rfl⟩
        have hx := hw x (List.mem_of_getElem? hj)
        have hn := hin x hx
        refine ⟨[some (.str (rowS w)), some (sgD x)], ?_, _, rfl⟩
        rw [ap_step]; unfold l_read_row_1
        generalize sgD x = SX at *
        simp [hn])
    subst e
    unfold m_read_row; rw [semOf_ap]; unfold b_read_row
    generalize rowS w = RS at *
    simp [n1, n2, it, lp]
theorem ws_ix {o : Bool} {W : List Str} {p : Nat} {x : Str} (h : W[p]? = some x) : gIx (.lst o (W.map D.str)) (.int (p : Int)) = some (.str x) := by
  rw [ix_l, at_nat, List.getElem?_map, h]; rfl
def Tk.ok : Tk → Prop
  | .row _ w => (∀ l ∈ w, l < 26) ∧ w.length ≤ 100
  | _ => True
def Tk.fd : Tk → D
  | .row b w => (Hs.row b w).d
  | .neg => Fr.neg.d
  | .two k => (Fr.two0 k).d
theorem first_spec {W pre rest : List Str} {t : Tk} (hW : W = pre ++ t.ws ++ rest) (hl : W.length ≤ 1000) (ok : t.ok) : m_read_first [.lst false (W.map D.str), .int (pre.length : Int)] = .rt (.tup [t.fd, .int ((pre.length + t.ws.length : Nat) : Int)]) [none, none] := by
  have s2 : 2 ≤ sizeLine := by decide
  have s1 : 1 ≤ sizeLine := by decide
  have e : b_read_first = (fSeq (fAsg (fI (vOp2 gIx (vVar 0) (vVar 1))) (gN 2))
    (fSeq (fIf (fTv (vOp1 (gNinD partsL) (vVar 2))) (fRaise "NoText") fNext)
    (fSeq (fIf (fTv (vOp2 gEq (vOp1 (gPart partsL 1) (vVar 2)) (vK (.int 0))))
    (fRet (fTup (fCons (fTup (fCons (fVar 2) fNil)) (fCons (fI (vOp2 gAdd (vVar 1) (vK (.int 1)))) fNil))))
    fNext)
    (fSeq (fIf (fTv (vOp2 gEq (vOp2 gAdd (vVar 1) (vK (.int 1))) (vOpN gLen (vCons (vVar 0) vNil)))) (fRaise "NoText") fNext)
    (fRet (fTup (fCons (fTup (fCons (fVar 2) (fCons (fCall 1 m_read_row (fCons (fI (vOp2 gIx (vVar 0) (vOp2 gAdd (vVar 1) (vK (.int 1))))) fNil)) fNil))) (fCons (fI (vOp2 gAdd (vVar 1) (vK (.int 2)))) fNil)))))))) := rfl
  have gl : gLen [.lst false (W.map D.str)] = some (.int (W.length : Int)) := by rw [len_l, List.length_map]
  unfold m_read_first; rw [semOf_ap, e]
  cases t with
  | row b w =>
    obtain ⟨ok, l100⟩ := ok
    have i0 : gIx (.lst false (W.map D.str)) (.int (pre.length : Int)) = some (.str (wrS b)) := ws_ix (by rw [hW]; simp [Tk.ws])
    have i1 : gIx (.lst false (W.map D.str)) (.int ((pre.length : Int) + 1)) = some (.str (rwS w)) := ws_ix (p := pre.length + 1) (by rw [hW]; simp [Tk.ws, List.append_assoc])
    have rr := readrow_spec ok l100
    have c : ¬ (pre.length : Int) + 1 = (W.length : Int) := by rw [hW]; simp [Tk.ws]; omega
    have p1 := parts_row b
    generalize D.lst false (W.map D.str) = WL at *
    generalize (W.length : Int) = WN at *
    simp [-ix_l, i0, i1, p1, gl, c, rr, Tk.fd, Hs.d, wr_s, Tk.ws, s1, s2]
  | neg =>
    have i0 : gIx (.lst false (W.map D.str)) (.int (pre.length : Int)) = some (.str "not") := ws_ix (by rw [hW]; simp [Tk.ws])
    have p1 := parts_not
    generalize D.lst false (W.map D.str) = WL at *
    simp [-ix_l, i0, p1, Tk.fd, Fr.d, Tk.ws, s1, s2]
  | two k =>
    have i0 : gIx (.lst false (W.map D.str)) (.int (pre.length : Int)) = some (.str (opS k)) := ws_ix (by rw [hW]; simp [Tk.ws])
    have p1 := parts_op k
    generalize D.lst false (W.map D.str) = WL at *
    simp [-ix_l, i0, p1, Tk.fd, Fr.d, opD_s, Tk.ws, s1, s2]
theorem imm_fr (f : Fr) : isImm f.d = true := by
  cases f with
  | neg => rfl
  | two0 k => rfl
  | two1 k a => have := imm_hs a; simp [Fr.d, opD_s, this]
theorem frz_fr (f : Fr) : frz f.d = f.d := frz_imm _ (imm_fr f)
theorem popD_snoc {xs : List D} {d : D} {i : Nat} {ρ : Ev} (id : isImm d = true) (hl : xs.length + 1 ≤ sizeLine) : popD (xs ++ [d]) i ((xs ++ [d]).length - 1) ρ = .ok d (ρ.set i (some (.lst true xs))) := by
  unfold popD
  have e : (xs ++ [d]).length - 1 = xs.length := by simp
  rw [e, List.getElem?_append_right (Nat.le_refl _), Nat.sub_self]
  show (if isImm d = true ∧ (xs ++ [d]).length ≤ sizeLine then _ else _) = _
  rw [if_pos ⟨id, by rw [List.length_append, List.length_singleton]; exact hl⟩, List.eraseIdx_append_of_length_le (Nat.le_refl _), Nat.sub_self]
  simp
def filled (f : Fr) (s : Hs) : D := match f with
  | .neg => (Hs.neg s).d
  | .two0 k => (Fr.two1 k s).d
  | .two1 k a => (Hs.two k a s).d
theorem pop_spec {fs : List Fr} {f : Fr} {s : Hs} (hl : fs.length ≤ 1000) {v0 v2 v3 : Option D} :
    l_read_words_1 [v0, some (.lst true ((f :: fs).reverse.map Fr.d)), v2, v3, some s.d] = .nx [v0, some (.lst true (fs.reverse.map Fr.d)), v2, v3, some (filled f s)] := by
  have e : (f :: fs).reverse.map Fr.d = fs.reverse.map Fr.d ++ [f.d] := by simp
  have fs' := frz_hs s
  have is := imm_hs s
  have s1 : 1 ≤ sizeLine := by decide
  have s2 : 2 ≤ sizeLine := by decide
  have s3 : 3 ≤ sizeLine := by decide
  have ff := frz_fr f
  have iff := imm_fr f
  have hl2 : (fs.reverse.map Fr.d).length + 1 ≤ sizeLine := by rw [List.length_map, List.length_reverse]; unfold sizeLine; omega
  rw [e]
  generalize fs.reverse.map Fr.d = FS at *
  have pp : ∀ ρ : Ev, popD (FS ++ [f.d]) 1 ((FS ++ [f.d]).length - 1) ρ = _ := fun ρ => popD_snoc iff hl2
  have ad : gAddT f.d (.tup [s.d]) = some (filled f s) := by
    cases f with
    | neg =>
      show gAddT (.tup [.str "not"]) (.tup [s.d]) = _
      rw [add_tt, if_pos ⟨⟨rfl, by simp [is]⟩, by simpa using s2⟩]; rfl
    | two0 k =>
      show gAddT (.tup [opD k]) (.tup [s.d]) = _
      rw [add_tt, if_pos ⟨⟨rfl, by simp [is]⟩, by simpa using s2⟩]; rfl
    | two1 k a =>
      have ia := imm_hs a
      show gAddT (.tup [opD k, a.d]) (.tup [s.d]) = _
      rw [add_tt, if_pos ⟨⟨by simp [opD_s, ia], by simp [is]⟩, by simpa using s3⟩]; rfl
  unfold l_read_words_1
  generalize f.d = FD at *
  generalize filled f s = FF at *
  generalize s.d = SD at *
  simp only [ap_asg, ap_op2, ap_pop0, List.getElem?_cons_succ, List.getElem?_cons_zero, isL1, pp]
  simp [fs', ad, s1]
abbrev cIn : Ev → Hap.R Bool := fAnd (fTb (fCall 1 m_is_done (fCons (fVar 4) fNil))) (fTv (vOp2 gGt (vOpN gLen (vCons (vVar 1) vNil)) (vK (.int 0))))
theorem cin_hs {s : Hs} {ws : List D} {v0 v2 v3 : Option D} : cIn [v0, some (.lst true ws), v2, v3, some s.d] = .ok (decide (0 < ws.length)) [v0, some (.lst true ws), v2, v3, some s.d] := by
  have t := isdone_hs s
  have fs' := frz_hs s
  unfold cIn
  generalize s.d = SD at *
  by_cases c : 0 < ws.length
  · have c' : (0 : Int) < (ws.length : Int) := by omega
    simp [t, fs', c, c']
  · have c' : ¬ (0 : Int) < (ws.length : Int) := by omega
    simp [t, fs', c, c']
theorem cin_fr {f : Fr} {w1 v0 v2 v3 : Option D} : cIn [v0, w1, v2, v3, some f.d] = .ok false [v0, w1, v2, v3, some f.d] := by
  have t := isdone_fr f
  have ff := frz_fr f
  unfold cIn
  generalize f.d = FD at *
  simp [t, ff]
/-- what stands behind a step -/
def aftW (g : List Fr ⊕ Hs) : List D := match g with
  | .inl (_ :: fs) => fs.reverse.map Fr.d
  | _ => []
def resOf (g : List Fr ⊕ Hs) : List D := match g with
  | .inl fs => fs.reverse.map Fr.d
  | .inr s => [s.d]
def aftO (g : List Fr ⊕ Hs) : D := match g with
  | .inl (f :: _) => f.d
  | .inl [] => .non
  | .inr s => s.d
theorem absorb_ne : ∀ (fs : List Fr) (s : Hs), absorb fs s ≠ .inl []
  | [], s => by simp [absorb]
  | .neg :: fs, s => by simpa [absorb] using absorb_ne fs (.neg s)
  | .two0 k :: fs, s => by simp [absorb]
  | .two1 k a :: fs, s => by simpa [absorb] using absorb_ne fs (.two k a s)
theorem inner_spec {v0 v2 v3 : Option D} : ∀ (fs : List Fr) (s : Hs) (n : Nat), fs.length + 1 < n → fs.length ≤ 1000 → whileS cIn l_read_words_1 n [v0, some (.lst true (fs.reverse.map Fr.d)), v2, v3, some s.d] = .nx [v0, some (.lst true (aftW (absorb fs s))), v2, v3, some (aftO (absorb fs s))]
  | [], s, n + 1, _, _ => by
    rw [whileS, cin_hs]; rfl
  | f :: fs, s, n + 1, hn, hl => by
    have hl' : fs.length ≤ 1000 := by simp at hl; omega
    have hn' : fs.length + 1 < n := by simp at hn; omega
    have c : decide (0 < ((f :: fs).reverse.map Fr.d).length) = true := by simp
    rw [whileS, cin_hs, c]
    dsimp only
    rw [pop_spec hl']
    dsimp only
    cases f with
    | neg => exact inner_spec fs (.neg s) n hn' hl'
    | two0 k =>
      match n, hn' with
      | n + 1, _ =>
        show whileS cIn l_read_words_1 (n + 1) [v0, some (.lst true (fs.reverse.map Fr.d)), v2, v3, some (Fr.two1 k s).d] = _
        rw [whileS, cin_fr]; rfl
    | two1 k a => exact inner_spec fs (.two k a s) n hn' hl'
theorem inner_fr {f : Fr} {w1 v0 v2 v3 : Option D} {n : Nat} : whileS cIn l_read_words_1 (n + 1) [v0, w1, v2, v3, some f.d] = .nx [v0, w1, v2, v3, some f.d] := by
  rw [whileS, cin_fr]
theorem fd_frz (t : Tk) : frz t.fd = t.fd := by
  cases t with
  | row b w => exact frz_hs _
  | neg => exact frz_fr .neg
  | two k => exact frz_fr (.two0 k)
theorem fd_imm (t : Tk) : isImm t.fd = true := by
  cases t with
  | row b w => exact imm_hs _
  | neg => exact imm_fr .neg
  | two k => exact imm_fr (.two0 k)
theorem step_inner {fs : List Fr} {t : Tk} (hl : fs.length ≤ 1000) {v0 v2 v3 : Option D} : whileS cIn l_read_words_1 fuel [v0, some (.lst true (fs.reverse.map Fr.d)), v2, v3, some t.fd] = .nx [v0, some (.lst true (aftW (stepT fs t))), v2, v3, some (aftO (stepT fs t))] := by
  cases t with
  | row b w => exact inner_spec fs (.row b w) fuel (by unfold fuel; omega) hl
  | neg => exact inner_fr (f := .neg) (n := 999999)
  | two k => exact inner_fr (f := .two0 k) (n := 999999)
theorem step_ne {fs : List Fr} {t : Tk} : stepT fs t ≠ .inl [] := by
  cases t with
  | row b w => exact absorb_ne fs _
  | neg => simp [stepT]
  | two k => simp [stepT]
theorem res_aft {g : List Fr ⊕ Hs} (h : g ≠ .inl []) : aftW g ++ [aftO g] = resOf g := by
  match g, h with
  | .inl [], h => exact absurd rfl h
  | .inl (f :: fs), _ => simp [aftW, aftO, resOf]
  | .inr s, _ => rfl
theorem absorb_len : ∀ (fs : List Fr) (s : Hs), (aftW (absorb fs s)).length ≤ fs.length
  | [], s => by simp [absorb, aftW]
  | .neg :: fs, s => by have := absorb_len fs (.neg s); simp only [absorb, List.length_cons]; omega
  | .two0 k :: fs, s => by simp [absorb, aftW]
  | .two1 k a :: fs, s => by have := absorb_len fs (.two k a s); simp only [absorb, List.length_cons]; omega
theorem step_len {fs : List Fr} {t : Tk} : (aftW (stepT fs t)).length ≤ fs.length := by
  cases t with
  | row b w => exact absorb_len fs _
  | neg => simp [stepT, aftW]
  | two k => simp [stepT, aftW]
theorem aft_imm (g : List Fr ⊕ Hs) : isImm (aftO g) = true := by
  match g with
  | .inl [] => rfl
  | .inl (f :: fs) => exact imm_fr f
  | .inr s => exact imm_hs s
theorem outer_turn {W pre rest : List Str} {t : Tk} {fs : List Fr} {m : Nat} (hW : W = pre ++ t.ws ++ rest) (hl : W.length ≤ 1000) (ok : t.ok) (hf : fs.length ≤ 1000) (hm : m ≤ 1000) (hr : ∀ s, stepT fs t = .inr s → rest = []) {v4 : Option D} :
    l_read_words_2 [some (.lst false (W.map D.str)), some (.lst true (fs.reverse.map Fr.d)), some (.int (pre.length : Int)), some (.int (m : Int)), v4]
      = .nx [some (.lst false (W.map D.str)), some (.lst true (resOf (stepT fs t))), some (.int ((pre.length + t.ws.length : Nat) : Int)), some (.int ((m : Int) + 1)), some (aftO (stepT fs t))] := by
  have tf := first_spec hW hl ok
  have fd := fd_frz t
  have fi := fd_imm t
  have wi := step_inner (t := t) hf (v0 := some (.lst false (W.map D.str))) (v2 := some (.int ((pre.length + t.ws.length : Nat) : Int))) (v3 := some (.int ((m : Int) + 1)))
  have ra := res_aft (step_ne (fs := fs) (t := t))
  have iO := aft_imm (stepT fs t)
  have fO1 := frz_imm _ iO
  have sl := step_len (fs := fs) (t := t)
  have sz : (aftW (stepT fs t)).length + 1 ≤ sizeLine := by unfold sizeLine; omega
  have sz' : (aftW (stepT fs t)).length < sizeLine := sz
  have iW : isImms (W.map D.str) = true := imms_map fun _ _ => rfl
  have fW : frz (.lst false (W.map D.str)) = .lst false (W.map D.str) := frz_imm _ (by rw [imm_lstI]; exact iW)
  have gl : gLen [.lst false (W.map D.str)] = some (.int (W.length : Int)) := by rw [len_l, List.length_map]
  have un : ∀ ρ : Ev, gT 2 (gsC (gN 4) (gsC (gN 2) gsN)) (.tup [t.fd, .int ((pre.length + t.ws.length : Nat) : Int)]) ρ = some ((ρ.set 4 (some t.fd)).set 2 (some (.int ((pre.length + t.ws.length : Nat) : Int)))) := fun ρ => by
    generalize ((pre.length + t.ws.length : Nat) : Int) = z
    simp
  have hlt : W.length = pre.length + t.ws.length + rest.length := by rw [hW]; simp [List.append_assoc]; omega
  have dn : ∃ b, m_is_done [aftO (stepT fs t)] = .rt (.bl b) [none] ∧ (b = true → ¬ ((pre.length + t.ws.length : Nat) : Int) < (W.length : Int)) := by
    cases e : stepT fs t with
    | inl l =>
      cases l with
      | nil => exact absurd e step_ne
      | cons f l => exact ⟨false, isdone_fr f, fun z => by cases z⟩
    | inr s =>
      refine ⟨true, isdone_hs s, fun _ => ?_⟩
      have := hr s e
      rw [this, List.length_nil] at hlt
      omega
  obtain ⟨b, td, hb⟩ := dn
  have ga : gI2 (fun i j => i + j) (.int (m : Int)) (.int 1) = some (.int ((m : Int) + 1)) := rfl
  unfold l_read_words_2
  rw [← ra]
  generalize aftW (stepT fs t) = AW at *
  generalize aftO (stepT fs t) = AO at *
  generalize fs.reverse.map Fr.d = FS at *
  generalize ((pre.length + t.ws.length : Nat) : Int) = NX at *
  generalize (pre.length : Int) = PL at *
  generalize t.fd = FD at *
  generalize (W.length : Int) = WN at *
  generalize D.lst false (W.map D.str) = WL at *
  cases b with
  | true =>
    have c := hb rfl
    simp [ga, tf, fd, fi, fW, wi, iO, fO1, sz, sz', td, gl, c, un]
  | false =>
    simp [ga, tf, fd, fi, fW, wi, iO, fO1, sz, sz', td, gl, un]
abbrev cOut : Ev → Hap.R Bool := fTv (vOp2 gLt (vVar 2) (vOpN gLen (vCons (vVar 0) vNil)))
theorem cout {W : List Str} {p : Nat} {v1 v3 v4 : Option D} : cOut [some (.lst false (W.map D.str)), v1, some (.int (p : Int)), v3, v4] = .ok (decide (p < W.length)) [some (.lst false (W.map D.str)), v1, some (.int (p : Int)), v3, v4] := by
  have gl : gLen [.lst false (W.map D.str)] = some (.int (W.length : Int)) := by rw [len_l, List.length_map]
  unfold cOut
  generalize D.lst false (W.map D.str) = WL at *
  have e : decide (p < W.length) = decide ((p : Int) < (W.length : Int)) := decide_eq_decide.mpr (by omega)
  rw [e]
  simp [gl]
theorem tkws_pos (t : Tk) : 1 ≤ t.ws.length := by cases t <;> simp [Tk.ws]
theorem outer_run {W : List Str} (hl : W.length ≤ 1000) {s : Hs} : ∀ (ts : List Tk) (fs : List Fr) (pre : List Str) (m n : Nat) (v4 : Option D), runT fs ts = some (.inr s) → W = pre ++ ts.flatMap Tk.ws → (∀ t ∈ ts, t.ok) → fs.length + ts.length ≤ 1000 → m + ts.length ≤ 1000 → ts.length < n →
    ∃ v4', whileS cOut l_read_words_2 n [some (.lst false (W.map D.str)), some (.lst true (fs.reverse.map Fr.d)), some (.int (pre.length : Int)), some (.int (m : Int)), v4]
      = .nx [some (.lst false (W.map D.str)), some (.lst true [s.d]), some (.int (W.length : Int)), some (.int ((m + ts.length : Nat) : Int)), v4']
  | [], fs, pre, m, n, v4, hr, _, _, _, _, _ => by simp [runT] at hr
  | t :: ts, fs, pre, m, n + 1, v4, hr, hW, hok, hf, hm, hn => by
    have hf' : fs.length ≤ 1000 := by simp at hf; omega
    have hm' : m ≤ 1000 := by simp at hm; omega
    have tp := tkws_pos t
    have hW' : W = pre ++ t.ws ++ ts.flatMap Tk.ws := by rw [hW]; simp
    have lt : pre.length < W.length := by rw [hW']; simp; omega
    have tn := outer_turn (v4 := v4) hW' hl (hok t List.mem_cons_self) hf' hm' (fun s' e => by
      simp only [runT, e] at hr
      cases ts with
      | nil => rfl
      | cons _ _ => cases hr)
    rw [whileS, cout, decide_eq_true lt]
    dsimp only
    rw [tn]
    dsimp only
    have em : ((m : Int) + 1) = ((m + 1 : Nat) : Int) := by omega
    rw [em]
    cases e : stepT fs t with
    | inr s' =>
      simp only [runT, e] at hr
      cases ts with
      | cons _ _ => cases hr
      | nil =>
        simp only [Option.some.injEq, Sum.inr.injEq] at hr
        subst hr
        have el : pre.length + t.ws.length = W.length := by rw [hW']; simp
        match n, hn with
        | n + 1, _ =>
          refine ⟨some s'.d, ?_⟩
          rw [el, whileS, cout, decide_eq_false (Nat.lt_irrefl _)]
          rfl
    | inl fs' =>
      have hr' : runT fs' ts = some (.inr s) := by simpa only [runT, e] using hr
      have hle : fs'.length ≤ fs.length + 1 := by
        have := step_len (fs := fs) (t := t)
        rw [e] at this
        cases fs' with
        | nil => simp
        | cons f fs' => simp [aftW] at this ⊢; omega
      have hn2 : ts.length < n := by simp at hn; omega
      obtain ⟨v4', q⟩ := outer_run hl ts fs' (pre ++ t.ws) (m + 1) n (some (aftO (.inl fs'))) hr' hW' (fun x hx => hok x (List.mem_cons_of_mem _ hx)) (by simp at hf; omega) (by simp at hm; omega) hn2
      refine ⟨v4', ?_⟩
      rw [List.length_append] at q
      have ee : m + (t :: ts).length = m + 1 + ts.length := by simp; omega
      rw [ee]
      exact q
theorem readwords_spec {s : Hs} (hz : s.size ≤ 500) (hl : s.ws.length ≤ 1000) (ok : ∀ t ∈ s.tk, t.ok) : m_read_words [.lst false (s.ws.map D.str)] = .rt (.tup [s.d, .int (s.size : Int)]) [none] := by
  obtain ⟨v4, q⟩ := outer_run hl s.tk [] [] 0 fuel none (run_all s) (by rw [tk_ws]; rfl) ok (by rw [tk_len]; simp; omega) (by rw [tk_len]; omega) (by rw [tk_len]; unfold fuel; omega)
  rw [tk_len, Nat.zero_add] at q
  have q : whileS cOut l_read_words_2 fuel [some (.lst false (s.ws.map D.str)), some (.lst true []), some (.int 0), some (.int 0), none] = _ := q
  have is := imm_hs s
  have fs' := frz_hs s
  have dn := isdone_hs s
  have ix : gIx (.lst true [s.d]) (.int (-1)) = some s.d := rfl
  have vc : ∀ v0 v2 v3 v4 : Option D, vCall 1 m_is_done (vCons (vOp2 gIx (vVar 1) (vOp1 gNeg (vK (.int 1)))) vNil) [v0, some (.lst true [s.d]), v2, v3, v4] = some (.bl true) := fun v0 v2 v3 v4 => by
    refine vcall_ok (ds := [s.d]) (es := [s.d]) (by simp [-ix_l, ix]) rfl (by show [frz _] = _; rw [fs']) dn rfl
  have s0 : 0 ≤ sizeLine := by decide
  have s2 : 2 ≤ sizeLine := by decide
  have iW : isImms (s.ws.map D.str) = true := imms_map fun _ _ => rfl
  unfold m_read_words; rw [semOf_ap]; unfold b_read_words
  have eW : (fWhile fuel (fTv (vOp2 gLt (vVar 2) (vOpN gLen (vCons (vVar 0) vNil)))) l_read_words_2) = fWhile fuel cOut l_read_words_2 := rfl
  rw [eW]
  generalize D.lst false (s.ws.map D.str) = WL at *
  generalize s.d = SD at *
  generalize (s.size : Int) = ZZ at *
  simp [-ap_vcall, -ix_l, q, ix, is, fs', vc, s0, s2]
theorem showrow_spec {w : List Nat} : m_show_row [.str (rowS w)] = .rt (.str (rwS w)) [none] := by
  by_cases c : w = []
  · subst c
    have e1 : gEq (.str (rowS [])) (.str "") = some (.bl true) := rfl
    have e2 : rwS [] = "-" := rfl
    rw [e2]
    unfold m_show_row; rw [semOf_ap]; unfold b_show_row
    simp [-eq_ss, e1]
  · have n2 : gEq (.str (rowS w)) (.str "") = some (.bl false) := by
      have : ¬ rowS w = "" := fun z => by
        have := congrArg Str.length z
        rw [rowS_len] at this
        exact c (List.length_eq_zero_iff.mp this)
      rw [eq_ss]; simp [this]
    have e2 : rwS w = rowS w := if_neg c
    rw [e2]
    unfold m_show_row; rw [semOf_ap]; unfold b_show_row
    generalize rowS w = RS at *
    simp [-eq_ss, n2]
theorem rowword_spec {w : List Nat} : m__law_row_word [.str (rowS w)] = .rt (.str (rwS w)) [none] := by
  by_cases c : w = []
  · subst c
    have e1 : gEq (.str (rowS [])) (.str "") = some (.bl true) := rfl
    have e2 : rwS [] = "-" := rfl
    have s2 : 2 ≤ sizeLine := by decide
    rw [e2]
    unfold m__law_row_word; rw [semOf_ap]; unfold b__law_row_word
    generalize rowS [] = RS at *
    simp [-eq_ss, e1, gInt, gIxI, s2]
  · have n2 : gEq (.str (rowS w)) (.str "") = some (.bl false) := by
      have : ¬ rowS w = "" := fun z => by
        have := congrArg Str.length z
        rw [rowS_len] at this
        exact c (List.length_eq_zero_iff.mp this)
      rw [eq_ss]; simp [this]
    have e2 : rwS w = rowS w := if_neg c
    have s2 : 2 ≤ sizeLine := by decide
    rw [e2]
    unfold m__law_row_word; rw [semOf_ap]; unfold b__law_row_word
    generalize rowS w = RS at *
    simp [-eq_ss, n2, gInt, gIxI, s2]
theorem inrow (b : Bool) : gIn (.str (wrS b)) (.tup [.str "row", .str "again"]) = some (.bl true) := by cases b <;> kernel_rfl
theorem innot : gIn (.str "not") (.tup [.str "row", .str "again"]) = some (.bl false) := by kernel_rfl
theorem inop (k : Nat) : gIn (.str (opS k)) (.tup [.str "row", .str "again"]) = some (.bl false) := by
  unfold opS
  split
  · kernel_rfl
  · split <;> kernel_rfl
theorem sl1 {x : D} {xs : List D} (i : isImms xs = true) (ix : isImm x = true) : gSl (.tup (x :: xs)) (some 1) none = some (.tup xs) := by
  have e1 : HT.sIx (x :: xs).length 0 (some 1) = 1 := by
    rw [show (some (1 : Int)) = some ((1 : Nat) : Int) from rfl, HT.sIx_nat]
    simp
  have e2 : HT.sIx (x :: xs).length (x :: xs).length none = (x :: xs).length := HT.sIx_none _ _
  show (if isImms (x :: xs) = true ∧ _ then _ else _) = _
  rw [e1, e2, if_pos ⟨by simp [i, ix], fun z => by have := z.1; omega⟩]
  unfold Hap.cutD
  rw [e1, e2]
  simp
theorem wordsof_spec : ∀ (s : Hs) (n : Nat), s.dep ≤ n → s.ws.length ≤ 1000 → r_words_of n [s.d] = .rt (.lst true (s.ws.map D.str)) [none]
  | .row b w, n + 1, _, _ => by
    have sr := showrow_spec (w := w)
    have ir := inrow b
    have s2 : 2 ≤ sizeLine := by decide
    unfold r_words_of; rw [semOf_ap]; unfold b_words_of
    simp [Hs.d, Hs.ws, wr_s, ir, sr, s2]
  | .neg a, n + 1, hn, hl => by
    have ih := wordsof_spec a n (by simp [Hs.dep] at hn; omega) (by simp [Hs.ws] at hl; omega)
    have ia := imm_hs a
    have fa := frz_hs a
    have s2 : 1 ≤ sizeLine := by decide
    have it := sl1 (x := .str "not") (xs := [a.d]) (by simp [ia]) rfl
    have inn := innot
    have hl' : a.ws.length + 1 ≤ sizeLine := by simp [Hs.ws] at hl; unfold sizeLine; omega
    have iw : isImms (a.ws.map D.str) = true := imms_map fun _ _ => rfl
    unfold r_words_of; rw [semOf_ap]; unfold b_words_of
    have e : (Hs.neg a).ws.map D.str = .str "not" :: a.ws.map .str := rfl
    have ed : (Hs.neg a).d = .tup [.str "not", a.d] := rfl
    have t2 : 2 ≤ sizeLine := by decide
    have z1 : 1 + a.ws.length ≤ sizeLine := by omega
    have z2 : a.ws.length + 1 ≤ sizeLine := by omega
    rw [e, ed]
    have lw : (a.ws.map D.str).length = a.ws.length := List.length_map _
    generalize a.ws.map D.str = AW at *
    generalize a.d = AD at *
    simp [inn, it, t2, s2, ia, fa, loopS, ap_step, l_words_of_1, ih, iw, lw, hl', z1, z2]
  | .two k a c, n + 1, hn, hl => by
    have iha := wordsof_spec a n (by simp [Hs.dep] at hn; omega) (by simp [Hs.ws] at hl; omega)
    have ihc := wordsof_spec c n (by simp [Hs.dep] at hn; omega) (by simp [Hs.ws] at hl; omega)
    have ia := imm_hs a
    have fa := frz_hs a
    have ic := imm_hs c
    have fc := frz_hs c
    have s2 : 1 ≤ sizeLine := by decide
    have it := sl1 (x := .str (opS k)) (xs := [a.d, c.d]) (by simp [ia, ic]) rfl
    have inn := inop k
    have hl' : a.ws.length + c.ws.length + 1 ≤ sizeLine := by simp [Hs.ws] at hl; unfold sizeLine; omega
    have iw : isImms (a.ws.map D.str) = true := imms_map fun _ _ => rfl
    have iw2 : isImms (c.ws.map D.str) = true := imms_map fun _ _ => rfl
    unfold r_words_of; rw [semOf_ap]; unfold b_words_of
    have e : (Hs.two k a c).ws.map D.str = .str (opS k) :: (a.ws.map .str ++ c.ws.map .str) := by simp [Hs.ws]
    have ed : (Hs.two k a c).d = .tup [.str (opS k), a.d, c.d] := rfl
    have t2 : 2 ≤ sizeLine := by decide
    have z1 : 1 + a.ws.length ≤ sizeLine := by omega
    have z2 : a.ws.length + 1 ≤ sizeLine := by omega
    have z3 : a.ws.length + 1 + c.ws.length ≤ sizeLine := by omega
    have z4 : 1 + a.ws.length + c.ws.length ≤ sizeLine := by omega
    have z5 : 1 + (a.ws.length + c.ws.length) ≤ sizeLine := by omega
    rw [e, ed]
    have lw : (a.ws.map D.str).length = a.ws.length := List.length_map _
    have lw2 : (c.ws.map D.str).length = c.ws.length := List.length_map _
    generalize a.ws.map D.str = AW at *
    generalize c.ws.map D.str = CW at *
    generalize a.d = AD at *
    generalize c.d = CD at *
    simp [inn, it, t2, s2, ia, fa, ic, fc, loopS, ap_step, l_words_of_1, iha, ihc, iw, iw2, lw, lw2, hl', z1, z2, z3, z4, z5]
  | .row b w, 0, hn, _ => by simp [Hs.dep] at hn
  | .neg a, 0, hn, _ => by simp [Hs.dep] at hn
  | .two k a c, 0, hn, _ => by simp [Hs.dep] at hn
theorem eqrow (b : Bool) : gEq (.str (wrS b)) (.str "row") = some (.bl (!b)) ∧ gEq (.str (wrS b)) (.str "again") = some (.bl b) := by cases b <;> exact ⟨by kernel_rfl, by kernel_rfl⟩
theorem eqnot : gEq (.str "not") (.str "row") = some (.bl false) ∧ gEq (.str "not") (.str "again") = some (.bl false) := ⟨by kernel_rfl, by kernel_rfl⟩
theorem eqop (k : Nat) : gEq (.str (opS k)) (.str "row") = some (.bl false) ∧ gEq (.str (opS k)) (.str "again") = some (.bl false) := by
  unfold opS
  split
  · exact ⟨by kernel_rfl, by kernel_rfl⟩
  · split <;> exact ⟨by kernel_rfl, by kernel_rfl⟩
theorem setwords_spec : ∀ (s : Hs) (n : Nat), s.dep ≤ n → s.ws.length ≤ 1000 → r__law_set_words n [s.d] = .rt (.lst true (s.ws.map D.str)) [none]
  | .row b w, n + 1, _, _ => by
    have sr := rowword_spec (w := w)
    obtain ⟨e1, e2⟩ := eqrow b
    have s2 : 2 ≤ sizeLine := by decide
    unfold r__law_set_words; rw [semOf_ap]; unfold b__law_set_words
    cases b <;> simp [-eq_ss, Hs.d, Hs.ws, wr_s, e1, e2, sr, s2]
  | .neg a, n + 1, hn, hl => by
    have ih := setwords_spec a n (by simp [Hs.dep] at hn; omega) (by simp [Hs.ws] at hl; omega)
    have ia := imm_hs a
    have fa := frz_hs a
    have s2 : 1 ≤ sizeLine := by decide
    have it := sl1 (x := .str "not") (xs := [a.d]) (by simp [ia]) rfl
    obtain ⟨e1, e2⟩ := eqnot
    have hl' : 1 + a.ws.length ≤ sizeLine := by simp [Hs.ws] at hl; unfold sizeLine; omega
    have iw : isImms (a.ws.map D.str) = true := imms_map fun _ _ => rfl
    have fw : frzs (a.ws.map D.str) = a.ws.map D.str := frzs_imm _ iw
    unfold r__law_set_words; rw [semOf_ap]; unfold b__law_set_words
    have e : (Hs.neg a).ws.map D.str = .str "not" :: a.ws.map .str := rfl
    have ed : (Hs.neg a).d = .tup [.str "not", a.d] := rfl
    have lw : (a.ws.map D.str).length = a.ws.length := List.length_map _
    have ad : ∀ o o', gAdd (.lst o [.str "not"]) (.lst o' (a.ws.map D.str)) = some (.lst true (.str "not" :: a.ws.map D.str)) := fun o o' => by
      rw [add_ll, if_pos ⟨⟨rfl, iw⟩, by rw [lw]; exact hl'⟩]; rfl
    rw [e, ed]
    generalize a.ws.map D.str = AW at *
    generalize a.d = AD at *
    simp [-eq_ss, e1, e2, it, s2, ia, fa, loopS, ap_step, l__law_set_words_1, ih, iw, fw, ad]
  | .two k a c, n + 1, hn, hl => by
    have iha := setwords_spec a n (by simp [Hs.dep] at hn; omega) (by simp [Hs.ws] at hl; omega)
    have ihc := setwords_spec c n (by simp [Hs.dep] at hn; omega) (by simp [Hs.ws] at hl; omega)
    have ia := imm_hs a
    have fa := frz_hs a
    have ic := imm_hs c
    have fc := frz_hs c
    have s2 : 1 ≤ sizeLine := by decide
    have it := sl1 (x := .str (opS k)) (xs := [a.d, c.d]) (by simp [ia, ic]) rfl
    obtain ⟨e1, e2⟩ := eqop k
    have hl' : a.ws.length + c.ws.length + 1 ≤ sizeLine := by simp [Hs.ws] at hl; unfold sizeLine; omega
    have iw : isImms (a.ws.map D.str) = true := imms_map fun _ _ => rfl
    have iw2 : isImms (c.ws.map D.str) = true := imms_map fun _ _ => rfl
    have fw : frzs (a.ws.map D.str) = a.ws.map D.str := frzs_imm _ iw
    have fw2 : frzs (c.ws.map D.str) = c.ws.map D.str := frzs_imm _ iw2
    unfold r__law_set_words; rw [semOf_ap]; unfold b__law_set_words
    have e : (Hs.two k a c).ws.map D.str = .str (opS k) :: (a.ws.map .str ++ c.ws.map .str) := by simp [Hs.ws]
    have ed : (Hs.two k a c).d = .tup [.str (opS k), a.d, c.d] := rfl
    have lw : (a.ws.map D.str).length = a.ws.length := List.length_map _
    have lw2 : (c.ws.map D.str).length = c.ws.length := List.length_map _
    have ad : ∀ o o', gAdd (.lst o [.str (opS k)]) (.lst o' (a.ws.map D.str)) = some (.lst true (.str (opS k) :: a.ws.map D.str)) := fun o o' => by
      rw [add_ll, if_pos ⟨⟨rfl, iw⟩, by rw [lw]; show 1 + _ ≤ _; omega⟩]; rfl
    have ad2 : ∀ o o', gAdd (.lst o (.str (opS k) :: a.ws.map D.str)) (.lst o' (c.ws.map D.str)) = some (.lst true (.str (opS k) :: (a.ws.map D.str ++ c.ws.map D.str))) := fun o o' => by
      rw [add_ll, if_pos ⟨⟨by simp [iw], iw2⟩, by rw [List.length_cons, lw, lw2]; omega⟩]; rfl
    rw [e, ed]
    generalize a.ws.map D.str = AW at *
    generalize c.ws.map D.str = CW at *
    generalize a.d = AD at *
    generalize c.d = CD at *
    simp [-eq_ss, e1, e2, it, s2, ia, fa, ic, fc, loopS, ap_step, l__law_set_words_1, iha, ihc, iw, iw2, fw, fw2, ad, ad2]
  | .row b w, 0, hn, _ => by simp [Hs.dep] at hn
  | .neg a, 0, hn, _ => by simp [Hs.dep] at hn
  | .two k a c, 0, hn, _ => by simp [Hs.dep] at hn
theorem tl_row (w : List Nat) : TL.tl (rowS w) = w.map (97 + ·) := by unfold TL.tl rowS; simp
theorem word_rw {w : List Nat} (hw : ∀ l ∈ w, l < 26) (hl : w.length ≤ 4) : WordOk (rwS w) := by
  by_cases c : w = []
  · have e2 : rwS w = "-" := if_pos c
    rw [e2]
    exact word_lit (by decide +kernel) (by decide +kernel) (by decide +kernel)
  · have e2 : rwS w = rowS w := if_neg c
    rw [e2]
    refine word_lit ?_ ?_ (by rw [rowS_len]; omega)
    · rw [tl_row]
      intro z
      obtain ⟨x, _, e⟩ := List.mem_map.mp z
      omega
    · rw [tl_row]
      intro z
      obtain ⟨x, _, e⟩ := List.mem_map.mp z
      omega
theorem word_wr (b : Bool) : WordOk (wrS b) := by
  cases b
  · exact word_lit (by decide +kernel) (by decide +kernel) (by decide +kernel)
  · exact word_lit (by decide +kernel) (by decide +kernel) (by decide +kernel)
theorem word_op (k : Nat) : WordOk (opS k) := by
  unfold opS
  split
  · exact word_lit (by decide +kernel) (by decide +kernel) (by decide +kernel)
  · split
    · exact word_lit (by decide +kernel) (by decide +kernel) (by decide +kernel)
    · exact word_lit (by decide +kernel) (by decide +kernel) (by decide +kernel)
theorem rok_lt (H : House h L) {w : List Nat} (hw : RowOk L w) : ∀ l ∈ w, l < 26 := fun l hl => by
  obtain ⟨e, he, q⟩ := hw l hl
  have := H.lt e he
  omega
theorem ws_ok (H : House h L) : ∀ s : Hs, s.Ok L → s.fit = true → ∀ x ∈ s.ws, WordOk x
  | .row b w, ok, hf, x, hx => by
    simp only [Hs.ws, List.mem_cons, List.not_mem_nil, or_false] at hx
    rcases hx with rfl | rfl
    · exact word_wr b
    · exact word_rw (rok_lt H ok.1) (by simpa [Hs.fit] using hf)
  | .neg a, ok, hf, x, hx => by
    rcases List.mem_cons.mp hx with rfl | hx
    · exact word_lit (by decide +kernel) (by decide +kernel) (by decide +kernel)
    · exact ws_ok H a ok hf x hx
  | .two k a c, ok, hf, x, hx => by
    have hf' : a.fit = true ∧ c.fit = true := by simpa [Hs.fit] using hf
    rcases List.mem_cons.mp hx with rfl | hx
    · exact word_op k
    · rcases List.mem_append.mp hx with hx | hx
      · exact ws_ok H a ok.1 hf'.1 x hx
      · exact ws_ok H c ok.2 hf'.2 x hx
theorem ws_len : ∀ s : Hs, s.ws.length ≤ 2 * s.size
  | .row b w => by simp [Hs.ws, Hs.size, Hs.subs]
  | .neg a => by rw [size_neg]; have := ws_len a; simp [Hs.ws]; omega
  | .two k a c => by rw [size_two]; have := ws_len a; have := ws_len c; simp [Hs.ws]; omega
theorem ws_ne (s : Hs) : s.ws ≠ [] := by cases s <;> simp [Hs.ws]
theorem tk_ok (H : House h L) : ∀ s : Hs, s.Ok L → ∀ t ∈ s.tk, t.ok
  | .row b w, ok, t, ht => by
    cases List.mem_singleton.mp ht
    exact ⟨rok_lt H ok.1, ok.2⟩
  | .neg a, ok, t, ht => by
    rcases List.mem_cons.mp ht with rfl | ht
    · trivial
    · exact tk_ok H a ok t ht
  | .two k a c, ok, t, ht => by
    rcases List.mem_cons.mp ht with rfl | ht
    · trivial
    · rcases List.mem_append.mp ht with ht | ht
      · exact tk_ok H a ok.1 t ht
      · exact tk_ok H c ok.2 t ht
theorem dep_size : ∀ s : Hs, s.dep ≤ s.size
  | .row b w => Nat.le_refl _
  | .neg a => by rw [size_neg]; have := dep_size a; simp [Hs.dep]; omega
  | .two k a c => by rw [size_two]; have := dep_size a; have := dep_size c; simp [Hs.dep]; omega
/-- a set that may be written -/
structure Good (h : Nat) (L : List (Nat × List Nat)) (s : Hs) : Prop where
  ok : s.Ok L
  fit : s.fit = true
  size : s.size ≤ 12
  rows : s.rows ≤ 5
theorem setof_good (H : House h L) {s : Hs} (g : Good h L s) : m_is_set_of [houD false h L, s.d] = .rt (.bl true) [none, none] := by
  have t := tin_hs H s g.ok (by have := g.size; omega) 18 (by have := dep_size s; have := g.size; omega)
  have := issetof_spec (s := s) (by have := g.size; omega) t
  rw [g.fit, decide_eq_true g.size, decide_eq_true g.rows] at this
  exact this
theorem showset_spec (H : House h L) {s : Hs} (g : Good h L s) : m_show_set [houD false h L, s.d] = .rt (.str (rowT s.ws)) [none, none] := by
  have sg := setof_good H g
  have fs' := frz_hs s
  have gz := g.size
  have wl := ws_len s
  have dz := dep_size s
  have wo : m_words_of [s.d] = _ := wordsof_spec s 13 (by omega) (by omega)
  have jn := row_join (o := true) (by omega) (ws_ok H s g.ok g.fit)
  have lh := look_spec H
  have fH : frz (houD false h L) = houD false h L := by simp
  have ls : m_look_set [houD false h L, s.d] = .rt .non [none, none] := by
    unfold m_look_set; rw [semOf_ap]; unfold b_look_set
    generalize houD false h L = HH at *
    generalize s.d = SD at *
    simp [lh, fH, fs', sg]
  have iw : isImms (s.ws.map D.str) = true := imms_map fun _ _ => rfl
  have jn : gJoin (.str " ") (.lst true (s.ws.map D.str)) = some (.str (rowT s.ws)) := jn
  unfold m_show_set; rw [semOf_ap]; unfold b_show_set
  generalize D.lst true (s.ws.map D.str) = WL at *
  generalize houD false h L = HH at *
  generalize s.d = SD at *
  simp [lh, fH, fs', ls, wo, jn]
theorem readset_spec (H : House h L) {s : Hs} (g : Good h L s) : m_read_set [houD false h L, .str (rowT s.ws)] = .rt s.d [none, none] := by
  have sg := setof_good H g
  have fs' := frz_hs s
  have is := imm_hs s
  have gz := g.size
  have wl := ws_len s
  have gs := row_gsplit (ws_ne s) (by omega) (ws_ok H s g.ok g.fit)
  have gs : gSplit (.str (rowT s.ws)) [.str " "] = some (.lst true (s.ws.map D.str)) := gs
  have rw_ := readwords_spec (s := s) (by omega) (by omega) (tk_ok H s g.ok)
  have iss := isset_spec H is sg
  have lh := look_spec H
  have fH : frz (houD false h L) = houD false h L := by simp
  have lt : m_look_text [.str (rowT s.ws)] = .rt .non [none] := by
    unfold m_look_text; rw [semOf_ap]; unfold b_look_text
    simp
  have fw : frz (.lst true (s.ws.map D.str)) = .lst false (s.ws.map D.str) := by
    rw [frz_lst, frzs_imm _ (imms_map fun _ _ => rfl)]
  have c : ¬ (12 : Int) < (s.size : Int) := by omega
  unfold m_read_set; rw [semOf_ap]; unfold b_read_set
  generalize D.lst true (s.ws.map D.str) = WT at *
  generalize D.lst false (s.ws.map D.str) = WL at *
  generalize rowT s.ws = RT at *
  generalize houD false h L = HH at *
  generalize s.d = SD at *
  generalize (s.size : Int) = ZZ at *
  simp [lh, fH, fs', is, lt, gs, fw, rw_, iss, c, isStrD]
theorem zip_map {α : Type} {a b : α → D} : ∀ xs : List α, zipD (xs.map a) (xs.map b) = xs.map fun x => .tup [a x, b x]
  | [] => rfl
  | x :: xs => by rw [List.map_cons, List.map_cons, zipD, zip_map xs]; rfl
def SameS (n : Nat) (d : D) : Prop := r__law_same_set n [d, d] = .rt (.bl true) [none, none]
theorem sames_str {n : Nat} {x : Str} : SameS (n + 1) (.str x) := by
  unfold SameS; rw [r__law_same_set, semOf_ap]; unfold b__law_same_set
  simp
theorem sames_tup {n : Nat} {ds : List D} (hf : frzs ds = ds) (hs : ∀ d ∈ ds, SameS n d) (hl : ds.length ≤ sizeLine) : SameS (n + 1) (.tup ds) := by
  have hz : zipLT [.tup ds, .tup ds] = some (ds.map fun d => .tup [d, d]) := by
    show some (zipD (frzs ds) (frzs ds)) = _
    rw [hf]
    have := zip_map (a := id) (b := id) ds
    simpa using this
  have hfd : ∀ d ∈ ds, frz d = d := fun d hd => by
    rw [frzs_map] at hf
    obtain ⟨i, hi⟩ := List.getElem?_of_mem hd
    have := congrArg (fun l : List D => l[i]?) hf
    simp only [List.getElem?_map, hi, Option.map_some] at this
    exact Option.some.inj this
  have lc : fLc (fItN zipLT (fCons (fVar 0) (fCons (fVar 1) fNil))) (gT 2 (gsC (gN 2) (gsC (gN 3) gsN))) fYes (fCall 2 (r__law_same_set n) (fCons (fVar 2) (fCons (fVar 3) fNil))) [2, 3] [some (.tup ds), some (.tup ds), none, none]
      = .ok (.lst true (ds.map fun _ => .bl true)) [some (.tup ds), some (.tup ds), none, none] := by
    refine lc_all (g := fun d => .tup [d, d]) (by simp [hf, hz]) (by simp) hl fun d hd => ?_
    have := hs d hd
    unfold SameS at this
    exact ⟨[some (.tup ds), some (.tup ds), some d, some d], by simp, [some (.tup ds), some (.tup ds), some d, some d], by simp [hfd d hd, this], by simp⟩
  have hga := all_map_bl (o := true) (fun _ => true) ds
  have hall : (ds.all fun _ => true) = true := by simp
  rw [hall] at hga
  unfold SameS; rw [r__law_same_set, semOf_ap]; unfold b__law_same_set
  simp [lc, hga, -all_l]
theorem sames_hs : ∀ (s : Hs) (n : Nat), s.dep < n → SameS n s.d
  | .row b w, n + 2, _ => sames_tup (n := n + 1) rfl (fun d hd => by
      simp only [List.mem_cons, List.not_mem_nil, or_false] at hd
      rcases hd with rfl | rfl
      · exact sames_str
      · exact sames_str) (show 2 ≤ sizeLine by decide)
  | .neg a, n + 2, hn => by
    have ih := sames_hs a (n + 1) (by simp [Hs.dep] at hn; omega)
    exact sames_tup (n := n + 1) (frzs_imm _ (by simp [imm_hs a])) (fun d hd => by
      simp only [List.mem_cons, List.not_mem_nil, or_false] at hd
      rcases hd with rfl | rfl
      · exact sames_str
      · exact ih) (show 2 ≤ sizeLine by decide)
  | .two k a c, n + 2, hn => by
    have iha := sames_hs a (n + 1) (by simp [Hs.dep] at hn; omega)
    have ihc := sames_hs c (n + 1) (by simp [Hs.dep] at hn; omega)
    exact sames_tup (n := n + 1) (frzs_imm _ (by simp [imm_hs a, imm_hs c, opD_s])) (fun d hd => by
      simp only [List.mem_cons, List.not_mem_nil, or_false] at hd
      rcases hd with rfl | rfl | rfl
      · exact sames_str
      · exact iha
      · exact ihc) (show 3 ≤ sizeLine by decide)
  | .row _ _, 0, h | .neg _, 0, h | .two _ _ _, 0, h => by omega
  | .row _ _, 1, h => by simp [Hs.dep] at h
  | .neg a, 1, h => by cases a <;> simp [Hs.dep] at h
  | .two _ _ _, 1, h => by simp [Hs.dep] at h
theorem sameset_spec {s : Hs} (h : s.dep ≤ 13) : m__law_same_set [s.d, s.d] = .rt (.bl true) [none, none] := sames_hs s 14 (by omega)
theorem samestr_spec {x : Str} : m__law_same [.str x, .str x] = .rt (.bl true) [none, none] := by
  unfold m__law_same; rw [r__law_same, semOf_ap]; unfold b__law_same
  simp
def negs : Nat → Hs → Hs
  | 0, s => s
  | k + 1, s => .neg (negs k s)
theorem negs_succ (k : Nat) (s : Hs) : negs (k + 1) s = .neg (negs k s) := rfl
theorem negs_facts (s : Hs) : ∀ k, (negs k s).size = s.size + k ∧ (negs k s).rows = s.rows ∧ (negs k s).fit = s.fit ∧ (negs k s).dep = s.dep + k ∧ (s.Ok L → (negs k s).Ok L)
  | 0 => ⟨rfl, rfl, rfl, rfl, fun h => h⟩
  | k + 1 => by
    obtain ⟨a, b, c, d, e⟩ := negs_facts s k
    refine ⟨by rw [negs_succ, size_neg, a]; omega, b, c, by rw [negs_succ, Hs.dep, d]; omega, e⟩
theorem deep_spec {s : Hs} {k : Nat} (hk : k ≤ 100) : m__law_deep [s.d, .int (k : Int)] = .rt (negs k s).d [none, none] := by
  have s2 : 2 ≤ sizeLine := by decide
  obtain ⟨ρ', lp, v2, e⟩ := loopR (step := stepS (gN 2) l__law_deep_1) (n := k) (ρ := [some s.d, some (.int (k : Int)), none])
    (fun j ρ => ∃ v2, ρ = [some (negs j s).d, some (.int (k : Int)), v2]) ⟨none, rfl⟩ (by
      rintro j ρ hj ⟨v2, rfl⟩
      have is := imm_hs (negs j s)
      have fs' := frz_hs (negs j s)
      refine ⟨[some (negs (j + 1) s).d, some (.int (k : Int)), some (.int (j : Int))], ?_, _, rfl⟩
      have ed : (negs (j + 1) s).d = .tup [.str "not", (negs j s).d] := rfl
      rw [ed, ap_step]; unfold l__law_deep_1
      generalize (negs j s).d = SD at *
      simp [is, fs', s2])
  subst e
  have is := imm_hs (negs k s)
  have hr := rng1_n (n := k) (by omega)
  unfold m__law_deep; rw [semOf_ap]; unfold b__law_deep
  generalize (negs k s).d = SK at *
  generalize s.d = SD at *
  simp [hr, lp, is]
def thirS (l : Nat) : Hs := negs 2 (.two 0 (.two 0 (.neg (.row false [l])) (.neg (.row false [l]))) (.two 1 (.neg (.row false [l])) (.neg (.row false [l]))))
theorem thir_facts {l : Nat} : (thirS l).size = 13 ∧ (thirS l).rows = 4 ∧ (thirS l).fit = true ∧ (thirS l).dep = 6 := ⟨rfl, rfl, rfl, rfl⟩
theorem thirteen_spec {l : Nat} : m__law_thirteen [sgD l] = .rt (thirS l).d [none] := by
  have s2 : 2 ≤ sizeLine := by decide
  have s3 : 3 ≤ sizeLine := by decide
  have dp := deep_spec (s := .two 0 (.two 0 (.neg (.row false [l])) (.neg (.row false [l]))) (.two 1 (.neg (.row false [l])) (.neg (.row false [l])))) (k := 2) (by omega)
  have dp : m__law_deep [.tup [.str "either", .tup [.str "either", .tup [.str "not", .tup [.str "row", sgD l]], .tup [.str "not", .tup [.str "row", sgD l]]], .tup [.str "both", .tup [.str "not", .tup [.str "row", sgD l]], .tup [.str "not", .tup [.str "row", sgD l]]]], .int 2] = .rt (thirS l).d [none, none] := dp
  have fs : frz (sgD l) = sgD l := rfl
  have is : isImm (sgD l) = true := rfl
  unfold m__law_thirteen; rw [semOf_ap]; unfold b__law_thirteen
  generalize (thirS l).d = TD at *
  generalize sgD l = SG at *
  simp [fs, is, s2, s3, dp]
theorem loopC_inv {α : Type} {t : D → Ev → Option Ev} {f : Ev → Hap.R D} {vs : List Nat} {g : α → D} {e : Nat → D} {S : Nat → Ev} : ∀ (xs : List α) (k : Nat) (acc : List D),
    (∀ j x, xs[j]? = some x → ∃ ρ2, t (g x) (S (k + j)) = some ρ2 ∧ ∃ ρ4, f ρ2 = .ok (e (k + j)) ρ4 ∧ wipeE ρ4 vs = S (k + j + 1)) →
    loopC t fYes f vs (xs.map g) acc (S k) = .ok (acc ++ (List.range xs.length).map fun j => e (k + j)) (S (k + xs.length))
  | [], k, acc, _ => by simp [loopC]
  | x :: xs, k, acc, h => by
    obtain ⟨ρ2, h1, ρ4, h2, h3⟩ := h 0 x rfl
    have ih := loopC_inv (t := t) (f := f) (vs := vs) (g := g) (e := e) (S := S) xs (k + 1) (acc ++ [e k]) fun j y hy => by
      have := h (j + 1) y (by simpa using hy)
      rwa [show k + (j + 1) = k + 1 + j by omega, show k + 1 + j + 1 = k + 1 + j + 1 from rfl] at this
    rw [List.map_cons, loopC]
    rw [show k + 0 = k from rfl] at h1 h2 h3
    rw [h1]
    show (match f ρ2 with | .ok e ρ3 => loopC t fYes f vs (xs.map g) (acc ++ [e]) (wipeE ρ3 vs) | _ => .stk) = _
    rw [h2]
    dsimp only
    rw [h3, ih, List.length_cons, List.range_succ_eq_map, List.map_cons, List.map_map, List.append_assoc, show k + 1 + xs.length = k + (xs.length + 1) by omega]
    congr 3
    refine congrArg (List.cons (e k)) (List.map_congr_left fun j _ => ?_)
    show e (k + 1 + j) = e (k + (j + 1))
    congr 1; omega
theorem lc_inv {α : Type} {i : Ev → Hap.R (List D)} {t : D → Ev → Option Ev} {f : Ev → Hap.R D} {vs : List Nat} {g : α → D} {e : Nat → D} {S : Nat → Ev} {xs : List α} {ρ ρ1 : Ev}
    (hi : i ρ = .ok (xs.map g) ρ1) (him : immAt ρ1 vs = true) (hl : xs.length ≤ sizeLine) (h0 : wipeE ρ1 vs = S 0)
    (h : ∀ j x, xs[j]? = some x → ∃ ρ2, t (g x) (S j) = some ρ2 ∧ ∃ ρ4, f ρ2 = .ok (e j) ρ4 ∧ wipeE ρ4 vs = S (j + 1)) :
    fLc i t fYes f vs ρ = .ok (.lst true ((List.range xs.length).map e)) (backE ρ1 (S xs.length) vs) := by
  have lp := loopC_inv (t := t) (f := f) (vs := vs) (g := g) (e := e) (S := S) xs 0 [] fun j x hx => by rw [Nat.zero_add]; exact h j x hx
  unfold fLc
  rw [hi]
  dsimp only [R.bind]
  show (if immAt ρ1 vs = true ∧ (xs.map g).length ≤ sizeLine then _ else _) = _
  rw [if_pos ⟨him, by simpa using hl⟩, h0, lp]
  simp only [List.nil_append, Nat.zero_add]
/-- letters drawn ahead of their use -/
theorem drawnB (H : House h L) : ∀ (n : Nat) {m : Nat} {g : D}, Bag m g → m + n < 2 ^ 59 → ∃ (R : List Nat) (gs : Nat → D), R.length = n ∧ RowOk L R ∧ gs 0 = g ∧ (∀ k, k < n → ∃ (i : Nat) (e : Nat × List Nat), L[i]? = some e ∧ e.1 = M.lt R k ∧ m__law_take [gs k, .int (L.length : Int)] = .rt (.int (i : Int)) [some (gs (k + 1)), none]) ∧ ∀ k, k ≤ n → Bag (m + k) (gs k)
  | 0, m, g, hb, _ => ⟨[], fun _ => g, rfl, (fun r hr => by cases hr), rfl, (fun k hk => by omega), fun k hk => by rw [Nat.le_zero.mp hk]; exact hb⟩
  | n + 1, m, g, hb, hn => by
    have l1 := H.l1
    have l6 := H.l6
    obtain ⟨i, g1, hi, hb1, t1⟩ := take_spec (m := (L.length : Int)) hb (by omega) (by omega) (by omega)
    obtain ⟨R, gs, hl, hR, h0, hs, hbg⟩ := drawnB H n hb1 (by omega)
    have hi' : i < L.length := by omega
    refine ⟨L[i].1 :: R, fun k => match k with | 0 => g | k + 1 => gs k, by simp [hl], fun r hr => ?_, rfl, fun k hk => ?_, fun k hk => ?_⟩
    · rcases List.mem_cons.mp hr with rfl | hr
      · exact ⟨L[i], List.getElem_mem hi', rfl⟩
      · exact hR r hr
    · cases k with
      | zero => exact ⟨i, L[i], List.getElem?_eq_getElem hi', rfl, by rw [t1]; show _ = RF.rt _ [some (gs 0), none]; rw [h0]⟩
      | succ k =>
        obtain ⟨i', e, a, b, c⟩ := hs k (by omega)
        exact ⟨i', e, a, b, c⟩
    · cases k with
      | zero => exact hb
      | succ k =>
        have := hbg k (by omega)
        rwa [show m + 1 + k = m + (k + 1) by omega] at this
theorem ent_0 {e : Nat × List Nat} {o : Bool} : gIx (entD o e) (.int 0) = some (sgD e.1) := by unfold entD; rw [ix_t, at_0]; rfl
theorem ixI_n {o : Bool} {l : List D} {k : Nat} (hk : k < l.length) (i : ∀ d ∈ l, isImm d = true) : gIxI (.lst o l) (.int (k : Int)) = some l[k] := ixI_of (by rw [ix_l, at_nat, List.getElem?_eq_getElem hk]) (i _ (List.getElem_mem hk))
/-- the drawn set -/
theorem lawset_spec (H : House h L) : ∀ (N n r t : Nat) (g : D), Bag n g → n + (2 ^ N * 100 - 100) < 2 ^ 58 → 1 ≤ r → r ≤ 5 → 1 ≤ t → t ≤ N → t ≤ 12 →
    ∃ (g' : D) (s : Hs), r__law_set N [g, houD false h L, .int (r : Int), .int (t : Int)] = .rt s.d [some g', none, none, none] ∧ Bag (n + (2 ^ N * 100 - 100)) g' ∧ s.Ok L ∧ s.fit = true ∧ s.size ≤ t ∧ s.rows ≤ r
  | 0, n, r, t, g, hb, hn, h1, h5, ht, htN, _ => by omega
  | N + 1, n, r, t, g, hb, hn, h1, h5, ht, htN, h12 => by
    have l1 := H.l1
    have l6 := H.l6
    have pN : 1 ≤ 2 ^ N := Nat.one_le_two_pow
    have pe : 2 ^ (N + 1) = 2 * 2 ^ N := by rw [Nat.pow_succ]; omega
    obtain ⟨k, g1, hk, hb1, t1⟩ := take_spec (m := 8) hb (by omega) (by omega) (by omega)
    have hix : gIx (houD false h L) (.int 1) = some (.lst false (L.map (entD false))) := hou_ix1
    have fH : frz (houD false h L) = houD false h L := by simp
    have s2 : 2 ≤ sizeLine := by decide
    have s3 : 3 ≤ sizeLine := by decide
    by_cases c2 : k = 2 ∧ 1 < t
    · obtain ⟨rfl, ht1⟩ := c2
      obtain ⟨g', s, e, hb', ok, ft, sz, rw_⟩ := lawset_spec H N (n + 1) r (t - 1) g1 hb1 (by omega) h1 h5 (by omega) (by omega) (by omega)
      refine ⟨g', .neg s, ?_, hb'.mono (by omega), ok, ft, by rw [size_neg]; omega, rw_⟩
      have is := imm_hs s
      have fs' := frz_hs s
      have ct : (1 : Int) < (t : Int) := by omega
      have ed : (Hs.neg s).d = .tup [.str "not", s.d] := rfl
      have et : ((t - 1 : Nat) : Int) = (t : Int) - 1 := by omega
      rw [et] at e
      unfold r__law_set; rw [semOf_ap]; unfold b__law_set
      rw [ed]
      generalize s.d = SD at *
      generalize houD false h L = HH at *
      simp [t1, ct, e, is, fs', fH, s2]
    · have n2 : ¬ ((k : Int) = 2 ∧ (1 : Int) < (t : Int)) := fun z => c2 ⟨by omega, by omega⟩
      by_cases c3 : k < 3 ∨ r < 2 ∨ t < 3
      · obtain ⟨m, g2, hm, hb2, t2⟩ := take_spec (m := 5) hb1 (by omega) (by omega) (by omega)
        obtain ⟨R, gs, hl, hR, g0, hs, hbg⟩ := drawnB H m hb2 (by omega)
        have hb3 : Bag (n + 1 + 1 + m) (gs m) := hbg m (Nat.le_refl _)
        have fm : Int.fmod (k : Int) 2 = ((k % 2 : Nat) : Int) := by rw [Int.fmod_eq_emod_of_nonneg _ (by omega)]; rfl
        have md : gMod (.int (k : Int)) (.int 2) = some (.int ((k % 2 : Nat) : Int)) := by rw [mod_ii, if_pos (by omega), fm]
        obtain ⟨b, hbk⟩ : ∃ b, gIx (.lst true [.str "row", .str "again"]) (.int ((k % 2 : Nat) : Int)) = some (wr b) := by
          have : k % 2 = 0 ∨ k % 2 = 1 := by omega
          rcases this with z | z <;> rw [z]
          · exact ⟨false, rfl⟩
          · exact ⟨true, rfl⟩
        refine ⟨gs m, .row b R, ?_, hb3.mono (by omega), ⟨hR, by omega⟩, by show decide (R.length ≤ 4) = true; exact decide_eq_true (by omega), by show 1 ≤ t; omega, by show 1 ≤ r; omega⟩
        have iE : isImms (L.map (entD false)) = true := imms_map fun _ _ => imm_ent
        have gl : gLen [.lst false (L.map (entD false))] = some (.int (L.length : Int)) := by rw [len_l, List.length_map]
        have iL : isImm (.lst false (L.map (entD false))) = true := by rw [imm_lstI]; exact iE
        have fE : frz (.lst false (L.map (entD false))) = .lst false (L.map (entD false)) := frz_imm _ iL
        have rg := rng1_n (n := m) (by omega)
        have jr := join_row (o := true) (R := R) (by omega)
        have eR : R.map sgD = (List.range m).map fun j => sgD (M.lt R j) := by
          apply List.ext_getElem?
          intro i
          rw [List.getElem?_map, List.getElem?_map]
          by_cases hi : i < m
          · have hi' : i < R.length := by omega
            rw [List.getElem?_range hi, List.getElem?_eq_getElem hi']
            show some (sgD R[i]) = some (sgD (M.lt R i))
            rw [show M.lt R i = R[i] by unfold M.lt; simp [hi']]
          · rw [List.getElem?_eq_none (show R.length ≤ i by omega), List.getElem?_eq_none (show (List.range m).length ≤ i by rw [List.length_range]; omega)]; rfl
        have lc : fLc (fItN rng1 (fCons (fCallIO 0 2 m__law_take (fCons (fK (.int 5)) fNil)) fNil)) (gN 10) fYes (fOp2 gIxI (fOp2 gIxI (fI (vOp2 gIx (vVar 1) (vK (.int 1)))) (fCallIO 0 2 m__law_take (fCons (fI (vOpN gLen (vCons (vOp2 gIx (vVar 1) (vK (.int 1))) vNil))) fNil))) (fK (.int 0))) [10] [some g1, some (houD false h L), some (.int (r : Int)), some (.int (t : Int)), some (.int (k : Int)), none, none, none, none, none, none]
            = .ok (.lst true (R.map sgD)) [some (gs m), some (houD false h L), some (.int (r : Int)), some (.int (t : Int)), some (.int (k : Int)), none, none, none, none, none, none] := by
          have z := lc_inv (i := fItN rng1 (fCons (fCallIO 0 2 m__law_take (fCons (fK (.int 5)) fNil)) fNil)) (t := gN 10) (f := fOp2 gIxI (fOp2 gIxI (fI (vOp2 gIx (vVar 1) (vK (.int 1)))) (fCallIO 0 2 m__law_take (fCons (fI (vOpN gLen (vCons (vOp2 gIx (vVar 1) (vK (.int 1))) vNil))) fNil))) (fK (.int 0))) (vs := [10]) (g := fun i : Nat => D.int (i : Int)) (e := fun j => sgD (M.lt R j)) (xs := List.range m)
            (S := fun j => [some (gs j), some (houD false h L), some (.int (r : Int)), some (.int (t : Int)), some (.int (k : Int)), none, none, none, none, none, none])
            (ρ := [some g1, some (houD false h L), some (.int (r : Int)), some (.int (t : Int)), some (.int (k : Int)), none, none, none, none, none, none]) (ρ1 := [some g2, some (houD false h L), some (.int (r : Int)), some (.int (t : Int)), some (.int (k : Int)), none, none, none, none, none, none])
            (by
              generalize houD false h L = HH at *
              simp [t2, rg]) (by simp) (by rw [List.length_range]; unfold sizeLine; omega) (by simp [g0]) (fun j x hx => by
              have hj : j < m := by have := (List.getElem?_eq_some_iff.mp hx).1; rwa [List.length_range] at this
              obtain ⟨i, e, hi, he, tk⟩ := hs j hj
              have i1 : gIxI (.lst false (L.map (entD false))) (.int (i : Int)) = some (entD false e) := ixI_of (by rw [ix_l, at_nat, List.getElem?_map, hi]; rfl) imm_ent
              have i2 : gIxI (entD false e) (.int 0) = some (sgD (M.lt R j)) := by
                rw [← he]; exact ixI_of ent_0 rfl
              refine ⟨[some (gs j), some (houD false h L), some (.int (r : Int)), some (.int (t : Int)), some (.int (k : Int)), none, none, none, none, none, some (.int (x : Int))], by simp, [some (gs (j + 1)), some (houD false h L), some (.int (r : Int)), some (.int (t : Int)), some (.int (k : Int)), none, none, none, none, none, some (.int (x : Int))], ?_, by simp⟩
              generalize sgD (M.lt R j) = SG at *
              generalize entD false e = EE at *
              generalize L.map (entD false) = LE at *
              generalize (L.length : Int) = LN at *
              generalize houD false h L = HH at *
              simp [-ix_t, -ix_l, hix, iE, fE, iL, gl, tk, i1, i2])
          rw [List.length_range] at z
          rw [z, eR]; rfl
        have fws : frz (wr b) = wr b := by cases b <;> rfl
        have ed : (Hs.row b R).d = .tup [wr b, .str (rowS R)] := rfl
        have cc : ((k : Int) < 3 ∨ (r : Int) < 2 ∨ (t : Int) < 3) := by omega
        have iwr : isImm (wr b) = true := by cases b <;> rfl
        have jr : gJoin (.str "") (.lst true (R.map sgD)) = some (.str (rowS R)) := jr
        unfold r__law_set; rw [semOf_ap]; unfold b__law_set
        rw [ed]
        generalize rowS R = RS at *
        generalize D.lst true (R.map sgD) = RD at *
        generalize wr b = WB at *
        generalize houD false h L = HH at *
        generalize ((k % 2 : Nat) : Int) = K2 at *
        by_cases d1 : (k : Int) < 3
        · by_cases d0 : (k : Int) = 2
          · have dt : ¬ (1 : Int) < (t : Int) := fun z => n2 ⟨d0, z⟩
            have k2 : k = 2 := by omega
            subst k2
            have t1' : m__law_take [g, .int 8] = .rt (.int 2) [some g1, none] := t1
            have md' : gMod (.int 2) (.int 2) = some (.int K2) := md
            have lc' := lc
            rw [show ((2 : Nat) : Int) = 2 from rfl] at lc'
            simp [-ix_l, -mod_ii, t1', dt, lc', jr, md', hbk, fws, iwr, s2]
          · simp [-ix_l, -mod_ii, t1, d1, d0, lc, jr, md, hbk, fws, iwr, s2]
        · have d0 : ¬ (k : Int) = 2 := by omega
          by_cases d2 : (r : Int) < 2
          · simp [-ix_l, -mod_ii, t1, d1, d0, d2, lc, jr, md, hbk, fws, iwr, s2]
          · have d3 : (t : Int) < 3 := by omega
            simp [-ix_l, -mod_ii, t1, d1, d0, d2, d3, lc, jr, md, hbk, fws, iwr, s2]
      · obtain ⟨a, g2, ha, hb2, t2⟩ := take_spec (m := (r : Int) - 1) hb1 (by omega) (by omega) (by omega)
        obtain ⟨b, g3, hbb, hb3, t3⟩ := take_spec (m := (t : Int) - 2) hb2 (by omega) (by omega) (by omega)
        obtain ⟨g4, s1, e1, hb4, ok1, ft1, sz1, rw1⟩ := lawset_spec H N (n + 1 + 1 + 1) (1 + a) (1 + b) g3 hb3 (by omega) (by omega) (by omega) (by omega) (by omega) (by omega)
        obtain ⟨g5, s2', e2, hb5, ok2, ft2, sz2, rw2⟩ := lawset_spec H N (n + 1 + 1 + 1 + (2 ^ N * 100 - 100)) (r - (1 + a)) (t - 1 - (1 + b)) g4 hb4 (by omega) (by omega) (by omega) (by omega) (by omega) (by omega)
        refine ⟨g5, .two (k % 3) s1 s2', ?_, hb5.mono (by omega), ⟨ok1, ok2⟩, by show (s1.fit && s2'.fit) = true; rw [ft1, ft2]; rfl, by rw [size_two]; omega, by show s1.rows + s2'.rows ≤ r; omega⟩
        have is1 := imm_hs s1
        have fs1 := frz_hs s1
        have is2 := imm_hs s2'
        have fs2 := frz_hs s2'
        have fm : Int.fmod (k : Int) 3 = ((k % 3 : Nat) : Int) := by rw [Int.fmod_eq_emod_of_nonneg _ (by omega)]; rfl
        have md : gMod (.int (k : Int)) (.int 3) = some (.int ((k % 3 : Nat) : Int)) := by rw [mod_ii, if_pos (by omega), fm]
        have hbk : gIx (.lst true [.str "either", .str "both", .str "then"]) (.int ((k % 3 : Nat) : Int)) = some (opD (k % 3)) := by
          have : k % 3 = 0 ∨ k % 3 = 1 ∨ k % 3 = 2 := by omega
          rcases this with z | z | z <;> rw [z] <;> rfl
        have d1 : ¬ (k : Int) < 3 := by omega
        have d0 : ¬ (k : Int) = 2 := by omega
        have d2 : ¬ (r : Int) < 2 := by omega
        have d3 : ¬ (t : Int) < 3 := by omega
        have ed : (Hs.two (k % 3) s1 s2').d = .tup [opD (k % 3), s1.d, s2'.d] := rfl
        have q1 : ((r - (1 + a) : Nat) : Int) = (r : Int) - (1 + (a : Int)) := by omega
        have q2 : ((t - 1 - (1 + b) : Nat) : Int) = (t : Int) - 1 - (1 + (b : Int)) := by omega
        have q3 : ((1 + a : Nat) : Int) = 1 + (a : Int) := by omega
        have q4 : ((1 + b : Nat) : Int) = 1 + (b : Int) := by omega
        rw [q3, q4] at e1
        rw [q1, q2] at e2
        have fop : frz (opD (k % 3)) = opD (k % 3) := rfl
        have iop : isImm (opD (k % 3)) = true := rfl
        unfold r__law_set; rw [semOf_ap]; unfold b__law_set
        rw [ed]
        generalize opD (k % 3) = OP at *
        generalize s1.d = S1 at *
        generalize s2'.d = S2 at *
        generalize houD false h L = HH at *
        generalize ((k % 3 : Nat) : Int) = K3 at *
        simp [-ix_l, -mod_ii, t1, t2, t3, d1, d0, d2, d3, e1, e2, md, hbk, fop, iop, is1, fs1, is2, fs2, fH, s2, s3]
def rep (k : Nat) (R : List Nat) : List Nat := (List.replicate k R).flatten
theorem rep_succ {k : Nat} {R : List Nat} : rep (k + 1) R = R ++ rep k R := by unfold rep; rw [List.replicate_succ, List.flatten_cons]
theorem rep_len {R : List Nat} : ∀ k, (rep k R).length = k * R.length
  | 0 => by simp [rep]
  | k + 1 => by rw [rep_succ, List.length_append, rep_len k, Nat.succ_mul, Nat.add_comm]
theorem rep_nil : ∀ k, rep k [] = []
  | 0 => rfl
  | k + 1 => by rw [rep_succ, rep_nil k]; rfl
theorem rep_mem {R : List Nat} {x k : Nat} (h : x ∈ rep k R) : x ∈ R := by
  unfold rep at h
  obtain ⟨l, hl, hx⟩ := List.mem_flatten.mp h
  rw [List.eq_of_mem_replicate hl] at hx; exact hx
theorem map_rep {f : Nat → Nat} : ∀ k, (rep k R).map f = rep k (R.map f)
  | 0 => rfl
  | k + 1 => by rw [rep_succ, rep_succ, List.map_append, map_rep k]
theorem fold_app {X : List Nat} : ∀ (k : Nat) (acc : Array Nat), ((List.replicate k X.toArray).foldl (· ++ ·) acc) = acc ++ (rep k X).toArray
  | 0, acc => by simp [rep]
  | k + 1, acc => by rw [List.replicate_succ, List.foldl_cons, fold_app k, rep_succ]; simp
theorem mul_row {k : Nat} : Txt.mul (rowS R) (k : Int) = rowS (rep k R) := by
  unfold Txt.mul
  by_cases c : (k : Int) < 1
  · have : k = 0 := by omega
    subst this
    rw [if_pos c]; rfl
  · rw [if_neg c]
    by_cases d : ((k : Int) == 1 || (rowS R).length == 0) = true
    · rw [if_pos d]
      rw [Bool.or_eq_true] at d
      rcases d with d | d
      · have : k = 1 := by
          have : (k : Int) = 1 := by simpa using d
          omega
        subst this
        rw [rep_succ]; simp [rep]
      · have hR : R = [] := by
          rw [rowS_len] at d
          exact List.length_eq_zero_iff.mp (by simpa using d)
        subst hR
        rw [rep_nil]
    · rw [if_neg d, Int.toNat_natCast]
      unfold rowS
      rw [fold_app, map_rep]
      simp
theorem mulX_row {k : Nat} (hR : R.length ≤ 1000) (hk : k ≤ 1000) : gMulX (.str (rowS R)) (.int (k : Int)) = some (.str (rowS (rep k R))) := by
  have hm : R.length * k ≤ 1000 * 1000 := Nat.mul_le_mul hR hk
  unfold gMulX
  dsimp only
  rw [if_pos ⟨by omega, by omega, by rw [rowS_len]; omega, by rw [rowS_len, Int.toNat_natCast]; unfold sizeLine; omega⟩, mul_row]
def Nos (h : Nat) (L : List (Nat × List Nat)) (d : D) : Prop := m_is_set_of [houD false h L, d] = .rt (.bl false) [none, none] ∧ isImm d = true
theorem nos_tin {d : D} (t : Tin h L 18 d none) : Nos h L d := ⟨issetof_none t, t.2.1⟩
theorem nos_hs (H : House h L) {s : Hs} (ok : s.Ok L) (hz : s.size ≤ 17) (hb : (s.fit && decide (s.size ≤ 12) && decide (s.rows ≤ 5)) = false) : Nos h L s.d := by
  have t := tin_hs H s ok (by omega) 18 (by have := dep_size s; omega)
  have := issetof_spec (s := s) (by omega) t
  rw [hb] at this
  exact ⟨this, imm_hs s⟩
/-- odd things: no sets at any depth -/
def NoT (h : Nat) (L : List (Nat × List Nat)) (d : D) : Prop := isImm d = true ∧ ∀ n, Tin h L (n + 1) d none
def odds63 (l : Nat) : List D := [.non, .bl true, .int 0, .str "", .str "row", .lst false [], .tup [], .lst false [.str "row", sgD l], .tup [sgD l], .int 1000000000000000000000000000000000000000]
theorem odds63_ok {l : Nat} : ∀ d ∈ odds63 l, NoT h L d := by
  have leaf : ∀ d : D, isImm d = true → gIsi [d, .gv (.ty "tuple")] = some (.bl false) → NoT h L d := fun d i hd => ⟨i, fun n => tin_leaf i hd⟩
  intro d hd
  unfold odds63 at hd
  simp only [List.mem_cons, List.not_mem_nil, or_false] at hd
  rcases hd with rfl | rfl | rfl | rfl | rfl | rfl | rfl | rfl | rfl | rfl
  · exact leaf _ rfl (by simp)
  · exact leaf _ rfl (by simp)
  · exact leaf _ rfl (by simp)
  · exact leaf _ rfl (by simp)
  · exact leaf _ rfl (by simp)
  · exact leaf _ rfl (by simp)
  · exact ⟨rfl, fun n => tin_short (ds := []) rfl (by simp)⟩
  · exact leaf _ rfl (by simp)
  · exact ⟨rfl, fun n => tin_short (ds := [sgD l]) rfl (by simp)⟩
  · exact leaf _ rfl (by simp)
def bads63 (l : Nat) : List D := [.non, .int 5, .str (rowS (rep 5 [l])), .str ⟨#[65 + l]⟩, .tup [sgD l], .lst false [sgD l], .str "-", .str ⟨#[97 + l, 32]⟩]
theorem bads63_ok (H : House h L) {l : Nat} (hl : l < 26) (hm : ∃ e ∈ L, e.1 = l) : ∀ d ∈ bads63 l, isImm d = true ∧ ∀ b n, Tin h L (n + 1) (.tup [wr b, d]) none := by
  have nor : ∀ d : D, isImm d = true → m_is_row [houD false h L, d] = .rt (.bl false) [none, none] → isImm d = true ∧ ∀ b n, Tin h L (n + 1) (.tup [wr b, d]) none := fun d i hr => ⟨i, fun b n => tin_norow (ds := []) (by simp [i]) fun _ => hr⟩
  intro d hd
  unfold bads63 at hd
  simp only [List.mem_cons, List.not_mem_nil, or_false] at hd
  rcases hd with rfl | rfl | rfl | rfl | rfl | rfl | rfl | rfl
  · exact nor _ rfl (row_non H rfl (by simp))
  · exact nor _ rfl (row_non H rfl (by simp))
  · refine ⟨rfl, fun b n => ?_⟩
    have := tin_row (n := n) H (b := b) (w := rep 5 [l]) (fun x hx => by
      have := rep_mem hx
      rw [List.mem_singleton] at this; subst this; exact hm) (by rw [rep_len]; simp)
    rw [if_neg (by rw [rep_len]; simp)] at this
    exact this
  · refine nor _ rfl (letter_str H (fun c hc => ?_) ⟨65 + l, by simp, fun e he => by have := H.lt e he; omega⟩ (by simp))
    have : c = 65 + l := by simpa using hc
    omega
  · exact nor _ rfl (row_non H rfl (by simp))
  · exact nor _ rfl (row_non H rfl (by simp))
  · refine nor _ rfl (letter_str H (show ∀ c ∈ ("-" : Str).cps.toList, c < 0x110000 by decide +kernel) ⟨45, by decide +kernel, fun e _ => by omega⟩ (by decide +kernel))
  · have e1 : (⟨#[97 + l, 32]⟩ : Str).cps.toList = [97 + l, 32] := rfl
    refine nor _ rfl (letter_str H (fun c hc => ?_) ⟨32, by rw [e1]; simp, fun e _ => by omega⟩ (by rw [e1]; simp))
    rw [e1] at hc
    simp only [List.mem_cons, List.not_mem_nil, or_false] at hc
    omega
theorem sg_sp {l : Nat} : gAdd (sgD l) (.str " ") = some (.str ⟨#[97 + l, 32]⟩) := by
  have e : sg l ++ (" " : Str) = ⟨#[97 + l, 32]⟩ := by
    have e2 : (" " : Str) = ⟨#[32]⟩ := by decide +kernel
    rw [e2]; rfl
  show gAdd (.str _) (.str _) = _
  have l2 : (" " : Str).length = 1 := by decide +kernel
  rw [add_ss, if_pos (by rw [sg_len, l2]; decide), e]
def wideS (l : Nat) : Nat → Hs
  | 0 => .row false [l]
  | k + 1 => .two 0 (wideS l k) (.row false [l])
theorem wide_facts {l : Nat} : (wideS l 5).size = 11 ∧ (wideS l 5).rows = 6 ∧ (wideS l 5).fit = true := ⟨rfl, rfl, rfl⟩
theorem wide_ok {l : Nat} (h : RowOk L [l]) : ∀ k, (wideS l k).Ok L
  | 0 => ⟨h, by simp⟩
  | k + 1 => ⟨wide_ok h k, ⟨h, by simp⟩⟩
def nosets (l : Nat) (od bd : D) (s : Hs) : List D := [od, .tup [.str "row"], .tup [.str "row", bd], .tup [.str "again", bd], .tup [.str "row", sgD l, sgD l], .tup [.str "not"], .tup [.str "not", od], .tup [.str "not", s.d, s.d], .tup [.str "either", s.d], .tup [.str "then", s.d, od], (wideS l 5).d, (thirS l).d]
theorem nosets_ok (H : House h L) {l : Nat} (hm : ∃ e ∈ L, e.1 = l) {od bd : D} (ho : NoT h L od) (hb : isImm bd = true ∧ ∀ b n, Tin h L (n + 1) (.tup [wr b, bd]) none) {s : Hs} (g : Good h L s) : ∀ d ∈ nosets l od bd s, Nos h L d := by
  have hR : RowOk L [l] := fun x hx => by
    rw [List.mem_singleton] at hx; subst hx; exact hm
  have is := imm_hs s
  have ts := tin_hs H s g.ok (by have := g.size; omega) 17 (by have := dep_size s; have := g.size; omega)
  rw [g.fit, if_pos rfl] at ts
  intro d hd
  unfold nosets at hd
  simp only [List.mem_cons, List.not_mem_nil, or_false] at hd
  rcases hd with rfl | rfl | rfl | rfl | rfl | rfl | rfl | rfl | rfl | rfl | rfl | rfl
  · exact nos_tin (ho.2 17)
  · exact nos_tin (tin_short (ds := [.str "row"]) rfl (by simp))
  · exact nos_tin (hb.2 false 17)
  · exact nos_tin (hb.2 true 17)
  · exact nos_tin (tin_norow (b := false) (ds := [sgD l]) rfl fun z => by cases z)
  · exact nos_tin (tin_short (ds := [.str "not"]) rfl (by simp))
  · have := tin_not (ho.2 16) (fun l z => by cases z)
    exact nos_tin this
  · exact nos_tin (tin_other (x := "not") (e := s.d) (ds := [s.d]) (by simp [is]) (by decide +kernel) (by decide +kernel) (show (("not" : Str), 3) ∉ kindsL by decide +kernel))
  · exact nos_tin (tin_other (x := "either") (e := s.d) (ds := []) (by simp [is]) (by decide +kernel) (by decide +kernel) (show (("either" : Str), 2) ∉ kindsL by decide +kernel))
  · exact nos_tin (tin_two2 2 ts (ho.2 16))
  · refine nos_hs H (wide_ok hR 5) (by rw [wide_facts.1]; omega) ?_
    rw [wide_facts.1, wide_facts.2.1, wide_facts.2.2]; rfl
  · refine nos_hs H ?_ (by rw [thir_facts.1]; omega) ?_
    · exact ⟨⟨⟨hR, by simp⟩, ⟨hR, by simp⟩⟩, ⟨⟨hR, by simp⟩, ⟨hR, by simp⟩⟩⟩
    · rw [thir_facts.1, thir_facts.2.1, thir_facts.2.2.1]; rfl
theorem noset_spec (H : House h L) {s : Hs} (g0 : Good h L s) {n : Nat} {g : D} (hb : Bag n g) (hn : n < 2 ^ 57) :
    ∃ (g' d : D), m__law_no_set [g, houD false h L, s.d] = .rt d [some g', none, none] ∧ Bag (n + 4) g' ∧ Nos h L d := by
  have l1 := H.l1
  have l6 := H.l6
  obtain ⟨i, g1, hi, hb1, t1⟩ := take_spec (m := (L.length : Int)) hb (by omega) (by omega) (by omega)
  obtain ⟨k, g2, hk, hb2, t2⟩ := take_spec (m := 12) hb1 (by omega) (by omega) (by omega)
  obtain ⟨a, g3, ha, hb3, t3⟩ := take_spec (m := 10) hb2 (by omega) (by omega) (by omega)
  obtain ⟨b, g4, hbb, hb4, t4⟩ := take_spec (m := 8) hb3 (by omega) (by omega) (by omega)
  have hi' : i < L.length := by omega
  obtain ⟨e, he⟩ : ∃ e, e = L[i] := ⟨_, rfl⟩
  have hm : e ∈ L := he ▸ List.getElem_mem hi'
  have hl26 := H.lt e hm
  obtain ⟨l, hle⟩ : ∃ l, l = e.1 := ⟨_, rfl⟩
  rw [← hle] at hl26
  have hmm : ∃ e ∈ L, e.1 = l := ⟨e, hm, hle.symm⟩
  have ha' : a < (odds63 l).length := by show a < 10; omega
  have hb' : b < (bads63 l).length := by show b < 8; omega
  have oo := odds63_ok (h := h) (L := L) (l := l)
  have bo := bads63_ok H hl26 hmm
  have oix : gIxI (.lst false (odds63 l)) (.int (a : Int)) = some (odds63 l)[a] := ixI_n ha' fun d hd => (oo d hd).1
  have bix : gIxI (.lst false (bads63 l)) (.int (b : Int)) = some (bads63 l)[b] := ixI_n hb' fun d hd => (bo d hd).1
  have oO := oo _ (List.getElem_mem ha')
  have bO := bo _ (List.getElem_mem hb')
  generalize (odds63 l)[a] = od at *
  generalize (bads63 l)[b] = bd at *
  have hk' : k < (nosets l od bd s).length := by show k < 12; omega
  have nO := nosets_ok H hmm oO bO g0
  have nix : gIxI (.lst false (nosets l od bd s)) (.int (k : Int)) = some (nosets l od bd s)[k] := ixI_n hk' fun d hd => (nO d hd).2
  refine ⟨g4, (nosets l od bd s)[k], ?_, hb4, nO _ (List.getElem_mem hk')⟩
  generalize (nosets l od bd s)[k] = dd at *
  have hix : gIx (houD false h L) (.int 1) = some (.lst false (L.map (entD false))) := hou_ix1
  have iE : isImms (L.map (entD false)) = true := imms_map fun _ _ => imm_ent
  have iL : isImm (.lst false (L.map (entD false))) = true := by rw [imm_lstI]; exact iE
  have fE : frz (.lst false (L.map (entD false))) = .lst false (L.map (entD false)) := frz_imm _ iL
  have gl : gLen [.lst false (L.map (entD false))] = some (.int (L.length : Int)) := by rw [len_l, List.length_map]
  have i1 : gIxI (.lst false (L.map (entD false))) (.int (i : Int)) = some (entD false e) := ixI_of (by rw [ix_l, at_nat, List.getElem?_map, List.getElem?_eq_getElem hi', he]; rfl) imm_ent
  have i2 : gIxI (entD false e) (.int 0) = some (sgD l) := by
    rw [hle]; exact ixI_of ent_0 rfl
  have m5 : gMulX (sgD l) (.int 5) = some (.str (rowS (rep 5 [l]))) := mulX_row (R := [l]) (k := 5) (by simp) (by omega)
  have up := up_sg hl26
  have sp := sg_sp (l := l)
  have c39 : CPow 10 39 := cpow_small 10 39 (by decide) (by decide)
  have sz : ∀ n : Nat, n ≤ 30 → n ≤ sizeLine := fun n h => by unfold sizeLine; omega
  have fs' := frz_hs s
  have is := imm_hs s
  have iod := oO.1
  have ibd := bO.1
  have fod := frz_imm _ iod
  have fbd := frz_imm _ ibd
  have isg : isImm (sgD l) = true := rfl
  have fsg : frz (sgD l) = sgD l := rfl
  have th := thirteen_spec (l := l)
  have iw := imm_hs (wideS l 5)
  have fw := frz_hs (wideS l 5)
  have it := imm_hs (thirS l)
  have ft := frz_hs (thirS l)
  obtain ⟨ρ', lp, v8, e'⟩ := loopR (step := stepS (gN 8) l__law_no_set_1) (n := 5) (ρ := [some g4, some (houD false h L), some s.d, some (sgD l), some (.int (k : Int)), some od, some bd, some (wideS l 0).d, none, none])
    (fun j ρ => ∃ v8, ρ = [some g4, some (houD false h L), some s.d, some (sgD l), some (.int (k : Int)), some od, some bd, some (wideS l j).d, v8, none]) ⟨none, rfl⟩ (by
      rintro j ρ hj ⟨v8, rfl⟩
      have i5 := imm_hs (wideS l j)
      have f5 := frz_hs (wideS l j)
      refine ⟨[some g4, some (houD false h L), some s.d, some (sgD l), some (.int (k : Int)), some od, some bd, some (wideS l (j + 1)).d, some (.int (j : Int)), none], ?_, _, rfl⟩
      have ed : (wideS l (j + 1)).d = .tup [.str "either", (wideS l j).d, .tup [.str "row", sgD l]] := rfl
      rw [ed, ap_step]; unfold l__law_no_set_1
      generalize (wideS l j).d = WD at *
      generalize sgD l = SG at *
      simp [i5, f5, isg, fsg, sz])
  subst e'
  have e0 : (wideS l 0).d = .tup [.str "row", sgD l] := rfl
  rw [e0] at lp
  have rg := rng1_n (n := 5) (by omega)
  have rg : rng1 [.int 5] = _ := rg
  unfold odds63 at oix
  unfold bads63 at bix
  unfold nosets at nix
  unfold m__law_no_set; rw [semOf_ap]; unfold b__law_no_set
  generalize (wideS l 5).d = WD at *
  generalize (thirS l).d = TD at *
  generalize s.d = SD at *
  generalize entD false e = EE at *
  generalize L.map (entD false) = LE at *
  generalize (L.length : Int) = LN at *
  generalize houD false h L = HH at *
  generalize rowS (rep 5 [l]) = R5 at *
  generalize sgD l = SG at *
  simp [-ix_t, -ix_l, hix, iE, fE, iL, gl, t1, t2, t3, t4, i1, i2, m5, up, sp, c39, sz, oix, bix, nix, fs', is, iod, ibd, fod, fbd, isg, fsg, th, iw, fw, it, ft, lp, rg, add_ll]
/-- plain things: no dict -/
def plainD : D → Bool
  | .int _ => true
  | .bl _ => true
  | .non => true
  | .str _ => true
  | .lst _ _ => true
  | .tup _ => true
  | _ => false
def isIntD : D → Bool
  | .int _ => true
  | _ => false
theorem whole_any {d : D} (p : plainD d = true) (i : isImm d = true) : m_is_whole [d] = .rt (.bl (isIntD d)) [none] := by
  unfold m_is_whole; rw [semOf_ap]; unfold b_is_whole
  cases d with
  | int j => simp [isIntD]
  | bl j => simp [isIntD]
  | non => simp [isIntD]
  | str j => simp [isIntD]
  | lst o xs => simp [isIntD, i, frz_imm _ i]
  | tup xs => simp [isIntD, i, frz_imm _ i]
  | _ => cases p
/-- rising numbers below n, from a on -/
def riseB (n : Nat) : Int → List D → Bool
  | _, [] => true
  | a, .int j :: ds => decide (a < j ∧ j < (n : Int)) && riseB n j ds
  | _, _ :: _ => false
theorem rising_any {n : Nat} {xs : List D} (hp : ∀ d ∈ xs, plainD d = true ∧ isImm d = true) : m_is_rising [.lst false xs, .int (n : Int)] = .rt (.bl (riseB n (-1) xs)) [none, none] := by
  have i0 : isImms xs = true := imms_all.mpr fun d hd => (hp d hd).2
  have fz : frzs xs = xs := frzs_imm xs i0
  have loop : ∀ (ys : List D) (a : Int) (v3 : Option D), (∀ d ∈ ys, plainD d = true ∧ isImm d = true) → (riseB n a ys = true ∧ ∃ a' v3', loopS (stepS (gN 3) l_is_rising_1) ys [some (.lst false xs), some (.int (n : Int)), some (.int a), v3] = .nx [some (.lst false xs), some (.int (n : Int)), some (.int a'), v3']) ∨ (riseB n a ys = false ∧ ∃ ρ', loopS (stepS (gN 3) l_is_rising_1) ys [some (.lst false xs), some (.int (n : Int)), some (.int a), v3] = .rt (.bl false) ρ' ∧ outsOf [false, false] ρ' = [none, none]) := by
    intro ys
    induction ys with
    | nil => exact fun a v3 _ => .inl ⟨rfl, a, v3, rfl⟩
    | cons d ys ih =>
      intro a v3 hy
      obtain ⟨p, im⟩ := hy d List.mem_cons_self
      have w := whole_any p im
      have hy' : ∀ d ∈ ys, plainD d = true ∧ isImm d = true := fun e he => hy e (List.mem_cons_of_mem _ he)
      by_cases hd : ∃ j, d = .int j
      · obtain ⟨j, rfl⟩ := hd
        by_cases c : a < j ∧ j < (n : Int)
        · have st : stepS (gN 3) l_is_rising_1 (.int j) [some (.lst false xs), some (.int (n : Int)), some (.int a), v3] = .nx [some (.lst false xs), some (.int (n : Int)), some (.int j), some (.int j)] := by
            rw [ap_step]; unfold l_is_rising_1
            simp [w, isIntD, c.1, c.2]
          unfold loopS
          rw [st]
          have e : riseB n a (.int j :: ys) = riseB n j ys := by simp [riseB, c]
          rw [e]
          exact ih j (some (.int j)) hy'
        · have st : ∃ ρ', stepS (gN 3) l_is_rising_1 (.int j) [some (.lst false xs), some (.int (n : Int)), some (.int a), v3] = .rt (.bl false) ρ' ∧ outsOf [false, false] ρ' = [none, none] := by
            refine ⟨[some (.lst false xs), some (.int (n : Int)), some (.int a), some (.int j)], ?_, rfl⟩
            rw [ap_step]; unfold l_is_rising_1
            by_cases c1 : a < j
            · have c2 : ¬ j < (n : Int) := fun z => c ⟨c1, z⟩
              simp [w, isIntD, c1, c2]
            · simp [w, isIntD, c1]
          obtain ⟨ρ', e1, e2⟩ := st
          refine .inr ⟨by simp [riseB, c], ρ', ?_, e2⟩
          unfold loopS
          rw [e1]
      · have ni : isIntD d = false := by
          cases d with
          | int j => exact absurd ⟨j, rfl⟩ hd
          | _ => rfl
        have st : stepS (gN 3) l_is_rising_1 d [some (.lst false xs), some (.int (n : Int)), some (.int a), v3] = .rt (.bl false) [some (.lst false xs), some (.int (n : Int)), some (.int a), some d] := by
          rw [ap_step]; unfold l_is_rising_1
          simp [w, ni, frz_imm d im]
        refine .inr ⟨?_, [some (.lst false xs), some (.int (n : Int)), some (.int a), some d], ?_, rfl⟩
        · cases d with
          | int j => exact absurd ⟨j, rfl⟩ hd
          | _ => rfl
        · unfold loopS
          rw [st]
  unfold m_is_rising; rw [semOf_ap]; unfold b_is_rising
  rcases loop xs (-1) none hp with ⟨e, a', v3', lp⟩ | ⟨e, ρ', lp, eo⟩
  · rw [e]
    simp [fz, lp]
  · rw [e]
    simp [fz, lp, rfOf, eo]
theorem rising_no {d : D} (p : plainD d = true) (n : Nat) (nl : ∀ o xs, d ≠ .lst o xs) : m_is_rising [d, .int (n : Int)] = .rt (.bl false) [none, none] := by
  unfold m_is_rising; rw [semOf_ap]; unfold b_is_rising
  cases d with
  | lst o xs => exact absurd rfl (nl o xs)
  | int j => simp
  | bl j => simp
  | non => simp
  | str j => simp
  | tup xs => simp
  | _ => cases p
theorem ixI_0 {o : Bool} {a : D} {l : List D} (i : isImm a = true) : gIxI (.lst o (a :: l)) (.int 0) = some a := ixI_of (by simp) i
theorem ixI_1 {o : Bool} {a b : D} {l : List D} (i : isImm b = true) : gIxI (.lst o (a :: b :: l)) (.int 1) = some b := ixI_of (by simp) i
theorem ixI_2 {o : Bool} {a b c : D} {l : List D} (i : isImm c = true) : gIxI (.lst o (a :: b :: c :: l)) (.int 2) = some c := ixI_of (by simp) i
theorem sl_to {o : Bool} {xs : List D} (i : isImms xs = true) {p : Nat} : gSl (.lst o xs) none (some (p : Int)) = some (.lst true (xs.take p)) := by
  unfold gSl
  dsimp only
  rw [if_pos i]
  unfold Hap.cutD
  rw [HT.sIx_none, HT.sIx_nat, List.drop_zero, Nat.sub_zero]
  congr 2
  rcases Nat.le_total p xs.length with h | h
  · rw [Nat.min_eq_left h]
  · rw [Nat.min_eq_right h, List.take_length, List.take_of_length_le h]
theorem sl_from {o : Bool} {xs : List D} (i : isImms xs = true) {p : Nat} (hp : p ≤ xs.length) : gSl (.lst o xs) (some (p : Int)) none = some (.lst true (xs.drop p)) := by
  unfold gSl
  dsimp only
  rw [if_pos i]
  unfold Hap.cutD
  rw [HT.sIx_none, HT.sIx_nat, Nat.min_eq_left hp, List.take_of_length_le (by rw [List.length_drop]; omega)]
theorem hou_nottup {d : D} (p : plainD d = true) (i : isImm d = true) (nt : ∀ xs, d ≠ .tup xs) : m_is_house [d] = .rt (.bl false) [none] := by
  unfold m_is_house; rw [semOf_ap]; unfold b_is_house
  cases d with
  | tup xs => exact absurd rfl (nt xs)
  | lst o xs => simp [i, frz_imm _ i]
  | int j => simp
  | bl j => simp
  | non => simp
  | str j => simp
  | _ => cases p
theorem hou_len {xs : List D} (n2 : xs.length ≠ 2) (ns : xs.length ≤ sizeLine) : m_is_house [.tup xs] = .rt (.bl false) [none] := by
  have c : ¬ (xs.length : Int) = 2 := by omega
  unfold m_is_house; rw [semOf_ap]; unfold b_is_house
  simp [ns, c]
/-- hands that are none -/
theorem hou_hands {d y : D} (p : plainD d = true) (i : isImm d = true) (iy : isImm y = true) (hd : ∀ j, d = .int j → ¬ (2 ≤ j ∧ j ≤ 4)) : m_is_house [.tup [d, y]] = .rt (.bl false) [none] := by
  have s2 : 2 ≤ sizeLine := by decide
  have w := whole_any p i
  have fy := frz_imm y iy
  unfold m_is_house; rw [semOf_ap]; unfold b_is_house
  cases d with
  | int j =>
    have hj := hd j rfl
    by_cases c : 2 ≤ j
    · have c4 : ¬ j ≤ 4 := fun z => hj ⟨c, z⟩
      simp [s2, fy, w, isIntD, c, c4]
    · simp [s2, fy, w, isIntD, c]
  | bl j => simp [s2, fy, w, isIntD]
  | non => simp [s2, fy, w, isIntD]
  | str j => simp [s2, fy, w, isIntD]
  | lst o xs => simp [s2, fy, frz_imm _ i, w, isIntD]
  | tup xs => simp [s2, fy, frz_imm _ i, w, isIntD]
  | _ => cases p
theorem hou_notlist {xs : List D} (H : House h L) (i : isImms xs = true) : m_is_house [.tup [.int (h : Int), .tup xs]] = .rt (.bl false) [none] := by
  have s2 : 2 ≤ sizeLine := by decide
  have c2 : (2 : Int) ≤ (h : Int) := by have := H.h2; omega
  have c4 : (h : Int) ≤ 4 := by have := H.h4; omega
  have w := whole_spec (h : Int)
  unfold m_is_house; rw [semOf_ap]; unfold b_is_house
  simp [s2, frzs_imm xs i, w, c2, c4]
theorem hou_many {xs : List D} (H : House h L) (i : isImms xs = true) (n : xs.length = 0 ∨ 6 < xs.length) (ns : xs.length ≤ sizeLine) : m_is_house [.tup [.int (h : Int), .lst false xs]] = .rt (.bl false) [none] := by
  have s2 : 2 ≤ sizeLine := by decide
  have c2 : (2 : Int) ≤ (h : Int) := by have := H.h2; omega
  have c4 : (h : Int) ≤ 4 := by have := H.h4; omega
  have w := whole_spec (h : Int)
  unfold m_is_house; rw [semOf_ap]; unfold b_is_house
  rcases n with n | n
  · have c : ¬ (1 : Int) ≤ (xs.length : Int) := by omega
    simp [s2, frzs_imm xs i, w, c2, c4, ns, c]
  · have c : (1 : Int) ≤ (xs.length : Int) := by omega
    have c6 : ¬ (xs.length : Int) ≤ 6 := by omega
    simp [s2, frzs_imm xs i, w, c2, c4, ns, c, c6]
/-- an entry that stops it -/
def Stops (h : Nat) (x : Str) (d : D) : Prop := m_is_entry [d, .int (h : Int)] = .rt (.bl false) [none, none] ∨ ∃ (e : Nat × List Nat), d = entD false e ∧ m_is_entry [d, .int (h : Int)] = .rt (.bl true) [none, none] ∧ gLt (.str x) (sgD e.1) = some (.bl false)
theorem hou_stop (H : House h L) {E : List (Nat × List Nat)} {d : D} {rest : List D} (hE : E.Pairwise fun e f => e.1 < f.1) (hm : ∀ e ∈ E, e ∈ L) (id : isImm d = true) (ir : isImms rest = true) (hl : E.length + 1 + rest.length ≤ 6)
    (st : Stops h (match E.getLast? with | some e => sg e.1 | none => Str.ofString "") d) : m_is_house [.tup [.int (h : Int), .lst false (E.map (entD false) ++ d :: rest)]] = .rt (.bl false) [none] := by
  have s2 : 2 ≤ sizeLine := by decide
  have c2 : (2 : Int) ≤ (h : Int) := by have := H.h2; omega
  have c4 : (h : Int) ≤ 4 := by have := H.h4; omega
  have w := whole_spec (h : Int)
  have iE : isImms (E.map (entD false)) = true := imms_map fun _ _ => imm_ent
  have iA : isImms (E.map (entD false) ++ d :: rest) = true := imms_all.mpr fun e he => (List.mem_append.mp he).elim (imms_all.mp iE e) fun z => (List.mem_cons.mp z).elim (fun z => by subst z; exact id) (imms_all.mp ir e)
  have len : (E.map (entD false) ++ d :: rest).length = E.length + 1 + rest.length := by simp; omega
  have ns : (E.map (entD false) ++ d :: rest).length ≤ sizeLine := by rw [len]; unfold sizeLine; omega
  have c1 : (1 : Int) ≤ ((E.map (entD false) ++ d :: rest).length : Int) := by rw [len]; omega
  have c6 : ((E.map (entD false) ++ d :: rest).length : Int) ≤ 6 := by rw [len]; omega
  have fA := frzs_imm _ iA
  -- the loop
  have loop : ∀ (S : List (Nat × List Nat)) (x : Str) (v4 : Option D) (A : D), isImm A = true → S.Pairwise (fun e f => e.1 < f.1) → (∀ e ∈ S, e ∈ L) → (∀ e ∈ S, gLt (.str x) (sgD e.1) = some (.bl true)) → Stops h (match S.getLast? with | some e => sg e.1 | none => x) d →
      ∃ v3 v4', loopS (stepS (gN 4) l_is_house_1) (S.map (entD false) ++ d :: rest) [some (.tup [.int (h : Int), A]), some (.int (h : Int)), some A, some (.str x), v4] = .rt (.bl false) [some (.tup [.int (h : Int), A]), some (.int (h : Int)), some A, v3, v4'] := by
    intro S
    induction S with
    | nil =>
      intro x v4 A iA' _ _ _ st
      have st : Stops h x d := st
      refine ⟨some (.str x), some d, ?_⟩
      have one : stepS (gN 4) l_is_house_1 d [some (.tup [.int (h : Int), A]), some (.int (h : Int)), some A, some (.str x), v4] = .rt (.bl false) [some (.tup [.int (h : Int), A]), some (.int (h : Int)), some A, some (.str x), some d] := by
        rw [ap_step]; unfold l_is_house_1
        rcases st with st | ⟨e, rfl, st, lt⟩
        · simp [frz_imm d id, st]
        · have e0 : gIx (entD false e) (.int 0) = some (sgD e.1) := ent_0
          simp [frz_imm _ id, st, e0, lt, -lt_ss]
      show loopS _ (d :: rest) _ = _
      unfold loopS
      rw [one]
    | cons e S ih =>
      intro x v4 A iA' pw hm lt st
      have he := hm e List.mem_cons_self
      have en : m_is_entry [entD false e, .int (h : Int)] = _ := entry_spec (H.lt e he) (H.own e he)
      have l1 := lt e List.mem_cons_self
      have pw' := List.pairwise_cons.mp pw
      have nst : Stops h (match S.getLast? with | some f => sg f.1 | none => sg e.1) d := by
        cases hS : S.getLast? with
        | none =>
          rw [List.getLast?_eq_none_iff] at hS
          subst hS
          exact st
        | some f =>
          have : (e :: S).getLast? = some f := by rw [List.getLast?_cons, hS]; rfl
          rw [this] at st
          exact st
      obtain ⟨v3, v, hv⟩ := ih (sg e.1) (some (entD false e)) A iA' pw'.2 (fun f hf => hm f (List.mem_cons_of_mem _ hf)) (fun f hf => sg_lt (pw'.1 f hf)) nst
      refine ⟨v3, v, ?_⟩
      have one : stepS (gN 4) l_is_house_1 (entD false e) [some (.tup [.int (h : Int), A]), some (.int (h : Int)), some A, some (.str x), v4] = .nx [some (.tup [.int (h : Int), A]), some (.int (h : Int)), some A, some (.str (sg e.1)), some (entD false e)] := by
        have e0 : gIx (entD false e) (.int 0) = some (.str (sg e.1)) := ent_0
        have l1' : gLt (.str x) (.str (sg e.1)) = some (.bl true) := l1
        rw [ap_step]; unfold l_is_house_1
        simp [en, e0, l1', -lt_ss]
      show loopS _ (entD false e :: (S.map (entD false) ++ d :: rest)) _ = _
      unfold loopS
      rw [one]
      exact hv
  have iZ : isImm (.lst false (E.map (entD false) ++ d :: rest)) = true := by rw [imm_lstI]; exact iA
  obtain ⟨v3, v, hv⟩ := loop E (Str.ofString "") none (.lst false (E.map (entD false) ++ d :: rest)) iZ hE hm (fun e _ => nil_lt) st
  generalize E.map (entD false) ++ d :: rest = Z at *
  unfold m_is_house; rw [semOf_ap]; unfold b_is_house
  simp [s2, fA, w, c2, c4, ns, c1, c6, hv]
theorem ent_nottup {d : D} {n : Int} (p : plainD d = true) (i : isImm d = true) (nt : ∀ xs, d ≠ .tup xs) : m_is_entry [d, .int n] = .rt (.bl false) [none, none] := by
  unfold m_is_entry; rw [semOf_ap]; unfold b_is_entry
  cases d with
  | tup xs => exact absurd rfl (nt xs)
  | lst o xs => simp [i, frz_imm _ i]
  | int j => simp
  | bl j => simp
  | non => simp
  | str j => simp
  | _ => cases p
theorem ent_len {xs : List D} {n : Int} (n2 : xs.length ≠ 2) (ns : xs.length ≤ sizeLine) : m_is_entry [.tup xs, .int n] = .rt (.bl false) [none, none] := by
  have c : ¬ (xs.length : Int) = 2 := by omega
  unfold m_is_entry; rw [semOf_ap]; unfold b_is_entry
  simp [ns, c]
theorem ent_sign {s o : D} {n : Int} (is : isImm s = true) (hs : m_is_sign [s] = .rt (.bl false) [none]) : m_is_entry [.tup [s, o], .int n] = .rt (.bl false) [none, none] := by
  have s2 : 2 ≤ sizeLine := by decide
  unfold m_is_entry; rw [semOf_ap]; unfold b_is_entry
  simp [s2, is, frz_imm s is, hs]
theorem ent_own {l : Nat} {o : D} {n : Nat} (hl : l < 26) (io : isImm o = true) (hr : m_is_rising [o, .int (n : Int)] = .rt (.bl false) [none, none]) : m_is_entry [.tup [sgD l, o], .int (n : Int)] = .rt (.bl false) [none, none] := by
  have s2 : 2 ≤ sizeLine := by decide
  have sg := sign_spec hl
  have sg' : m_is_sign [sgD l] = .rt (.bl true) [none] := sg
  unfold m_is_entry; rw [semOf_ap]; unfold b_is_entry
  simp [s2, sg', io, frz_imm o io, hr]
theorem ent_empty {l : Nat} {n : Nat} (hl : l < 26) : m_is_entry [.tup [sgD l, .lst false []], .int (n : Int)] = .rt (.bl false) [none, none] := by
  have s2 : 2 ≤ sizeLine := by decide
  have s0 : 0 ≤ sizeLine := by decide
  have sg' : m_is_sign [sgD l] = .rt (.bl true) [none] := sign_spec hl
  have hr : m_is_rising [.lst false [], .int (n : Int)] = .rt (.bl true) [none, none] := rising_any (xs := []) (by simp)
  unfold m_is_entry; rw [semOf_ap]; unfold b_is_entry
  simp [s2, s0, sg', hr]
/-- signs that are none -/
def noSigns : List D := [.str "", .str "A", .str "ab", .str "-", .str "1", .non, .int 5, .tup [.str "a"]]
theorem noSigns_ok : ∀ d ∈ noSigns, m_is_sign [d] = .rt (.bl false) [none] ∧ isImm d = true := by
  have tx : ∀ (x : Str) (b : Bool), x.length ≤ sizeLine → (x.length = 1 → gIn (.str x) (.str (Str.ofString "abcdefghijklmnopqrstuvwxyz")) = some (.bl false)) → m_is_sign [.str x] = .rt (.bl false) [none] := fun x b hl hin => by
    unfold m_is_sign; rw [semOf_ap]; unfold b_is_sign
    by_cases c : x.length = 1
    · have c' : (x.length : Int) = 1 := by omega
      simp [hl, c', hin c]
    · have c' : ¬ (x.length : Int) = 1 := by omega
      simp [hl, c']
  have nt : ∀ d : D, d = .non ∨ d = .int 5 ∨ d = .tup [.str "a"] → m_is_sign [d] = .rt (.bl false) [none] := fun d hd => by
    unfold m_is_sign; rw [semOf_ap]; unfold b_is_sign
    rcases hd with rfl | rfl | rfl <;> simp
  intro d hd
  unfold noSigns at hd
  simp only [List.mem_cons, List.not_mem_nil, or_false] at hd
  rcases hd with rfl | rfl | rfl | rfl | rfl | rfl | rfl | rfl
  · exact ⟨tx _ true (by decide +kernel) (fun z => absurd z (by decide +kernel)), rfl⟩
  · exact ⟨tx _ true (by decide +kernel) (fun _ => by kernel_rfl), rfl⟩
  · exact ⟨tx _ true (by decide +kernel) (fun z => absurd z (by decide +kernel)), rfl⟩
  · exact ⟨tx _ true (by decide +kernel) (fun _ => by kernel_rfl), rfl⟩
  · exact ⟨tx _ true (by decide +kernel) (fun _ => by kernel_rfl), rfl⟩
  · exact ⟨nt _ (.inl rfl), rfl⟩
  · exact ⟨nt _ (.inr (.inl rfl)), rfl⟩
  · exact ⟨nt _ (.inr (.inr rfl)), rfl⟩
theorem sg_nlt {a b : Nat} (hn : ¬ a < b) : gLt (.str (sg a)) (sgD b) = some (.bl false) := by
  show some (D.bl (decide ((sg a).cps.toList < (sg b).cps.toList))) = _
  rw [decide_eq_false (by rw [sg_lt_iff]; exact hn)]
/-- hands that are none -/
def handsN : List D := [.int 1, .int 5, .int 0, .int (-1), .bl true, .str "2", .non, .int 1000000000000000000000000000000000000000]
theorem handsN_ok : ∀ d ∈ handsN, plainD d = true ∧ isImm d = true ∧ ∀ j, d = .int j → ¬ (2 ≤ j ∧ j ≤ 4) := by
  intro d hd
  unfold handsN at hd
  simp only [List.mem_cons, List.not_mem_nil, or_false] at hd
  rcases hd with rfl | rfl | rfl | rfl | rfl | rfl | rfl | rfl <;> refine ⟨rfl, rfl, fun j e => ?_⟩ <;> cases e <;> omega
def odds1 : List D := [.non, .bl true, .int 0, .str "", .lst false [], .tup [], .int 1000000000000000000000000000000000000000, .int (-1), .str "a", .lst false [.int 0], .tup [.int 0]]
theorem odds1_ok : ∀ d ∈ odds1, m_is_house [d] = .rt (.bl false) [none] ∧ isImm d = true := by
  intro d hd
  unfold odds1 at hd
  simp only [List.mem_cons, List.not_mem_nil, or_false] at hd
  rcases hd with rfl | rfl | rfl | rfl | rfl | rfl | rfl | rfl | rfl | rfl | rfl
  · exact ⟨hou_nottup rfl rfl (fun _ e => by cases e), rfl⟩
  · exact ⟨hou_nottup rfl rfl (fun _ e => by cases e), rfl⟩
  · exact ⟨hou_nottup rfl rfl (fun _ e => by cases e), rfl⟩
  · exact ⟨hou_nottup rfl rfl (fun _ e => by cases e), rfl⟩
  · exact ⟨hou_nottup rfl rfl (fun _ e => by cases e), rfl⟩
  · exact ⟨hou_len (by decide) (by decide), rfl⟩
  · exact ⟨hou_nottup rfl rfl (fun _ e => by cases e), rfl⟩
  · exact ⟨hou_nottup rfl rfl (fun _ e => by cases e), rfl⟩
  · exact ⟨hou_nottup rfl rfl (fun _ e => by cases e), rfl⟩
  · exact ⟨hou_nottup rfl rfl (fun _ e => by cases e), rfl⟩
  · exact ⟨hou_len (by decide) (by decide), rfl⟩
/-- owners that are none -/
def ownsN (h : Nat) (ow : List Nat) : List D := [.lst false [], .lst false (ow.map natD ++ ow.map natD), .lst false (ow.map natD ++ [.int (h : Int)]), .lst false (.int (-1) :: ow.map natD), .tup (ow.map natD), .lst false [.bl true], .non, .str "0"]
theorem np_nats (l : List Nat) : ∀ e ∈ l.map natD, plainD e = true ∧ isImm e = true := fun e he => by obtain ⟨x, _, rfl⟩ := List.mem_map.mp he; exact ⟨rfl, rfl⟩
theorem riseB_end {n : Nat} : ∀ (gd : List Nat) (a : Int) (z : Int), (∀ b : Int, (gd = [] → b = a) → ((∃ x ∈ gd, b = (x : Int)) ∨ gd = []) → ¬ (b < z ∧ z < (n : Int))) → ∀ rest, riseB n a (gd.map natD ++ .int z :: rest) = false
  | [], a, z, hz, rest => by
    have := hz a (fun _ => rfl) (.inr rfl)
    show (decide (a < z ∧ z < (n : Int)) && riseB n z rest) = false
    rw [decide_eq_false this, Bool.false_and]
  | x :: gd, a, z, hz, rest => by
    show (decide (a < (x : Int) ∧ (x : Int) < (n : Int)) && riseB n x (gd.map natD ++ .int z :: rest)) = false
    rw [riseB_end gd x z (fun b h1 h2 => hz b (by intro z; cases z) ?_) rest, Bool.and_false]
    rcases h2 with ⟨y, hy, e⟩ | e
    · exact .inl ⟨y, List.mem_cons_of_mem _ hy, e⟩
    · exact .inl ⟨x, List.mem_cons_self, h1 e⟩
theorem ownsN_ok {e : Nat × List Nat} (H : House h L) (he : e ∈ L) : ∀ d ∈ ownsN h e.2, m_is_entry [.tup [sgD e.1, d], .int (h : Int)] = .rt (.bl false) [none, none] ∧ isImm d = true := by
  have l26 := H.lt e he
  have ho := H.own e he
  have ni : isImms (e.2.map natD) = true := imms_nats
  have ap : ∀ ys : List D, (∀ e ∈ ys, plainD e = true ∧ isImm e = true) → ∀ d ∈ e.2.map natD ++ ys, plainD d = true ∧ isImm d = true := fun ys hy d hd => (List.mem_append.mp hd).elim (np_nats _ d) (hy d)
  intro d hd
  unfold ownsN at hd
  simp only [List.mem_cons, List.not_mem_nil, or_false] at hd
  rcases hd with rfl | rfl | rfl | rfl | rfl | rfl | rfl | rfl
  · exact ⟨ent_empty l26, rfl⟩
  · have i : isImm (.lst false (e.2.map natD ++ e.2.map natD)) = true := by rw [imm_lstI]; exact imms_all.mpr fun d hd => (ap _ (np_nats _) d hd).2
    refine ⟨ent_own l26 i ?_, i⟩
    rw [rising_any (ap _ (np_nats _))]
    obtain ⟨x, xs, hx⟩ : ∃ x xs, e.2 = x :: xs := by
      cases hx : e.2 with
      | nil => exact absurd hx ho.ne
      | cons x xs => exact ⟨x, xs, rfl⟩
    have e2 : e.2.map natD ++ e.2.map natD = e.2.map natD ++ .int (x : Int) :: xs.map natD := by rw [hx]; rfl
    rw [e2, riseB_end]
    intro b _ hb z
    rcases hb with ⟨y, hy, rfl⟩ | hb
    · have hp := ho.rise
      rw [hx] at hp hy
      rcases List.mem_cons.mp hy with rfl | hy
      · omega
      · have := (List.pairwise_cons.mp hp).1 y hy
        omega
    · exact ho.ne hb
  · have pz : ∀ d ∈ [D.int (h : Int)], plainD d = true ∧ isImm d = true := fun d hd => by cases List.mem_singleton.mp hd; exact ⟨rfl, rfl⟩
    have i : isImm (.lst false (e.2.map natD ++ [.int (h : Int)])) = true := by rw [imm_lstI]; exact imms_all.mpr fun d hd => (ap _ pz d hd).2
    refine ⟨ent_own l26 i ?_, i⟩
    rw [rising_any (ap _ pz), riseB_end]
    intro b _ _ z
    omega
  · have pz : ∀ d ∈ D.int (-1) :: e.2.map natD, plainD d = true ∧ isImm d = true := fun d hd => (List.mem_cons.mp hd).elim (fun z => by subst z; exact ⟨rfl, rfl⟩) (np_nats _ d)
    have i : isImm (.lst false (.int (-1) :: e.2.map natD)) = true := by rw [imm_lstI]; exact imms_all.mpr fun d hd => (pz d hd).2
    refine ⟨ent_own l26 i ?_, i⟩
    rw [rising_any pz]
    simp [riseB]
  · have i : isImm (.tup (e.2.map natD)) = true := by rw [imm_tup]; exact ni
    exact ⟨ent_own l26 i (rising_no rfl h (fun _ _ z => by cases z)), i⟩
  · refine ⟨ent_own l26 rfl ?_, rfl⟩
    rw [rising_any (fun d hd => by cases List.mem_singleton.mp hd; exact ⟨rfl, rfl⟩)]
    simp [riseB]
  · exact ⟨ent_own l26 rfl (rising_no rfl h (fun _ _ z => by cases z)), rfl⟩
  · exact ⟨ent_own l26 rfl (rising_no rfl h (fun _ _ z => by cases z)), rfl⟩
/-- entries that are none -/
def entsN (e : Nat × List Nat) (od : D) : List D := [.lst false [sgD e.1, ownD false e.2], .tup [sgD e.1], .tup [sgD e.1, ownD false e.2, od], sgD e.1, .non, .int 3, .tup [], .tup [ownD false e.2, sgD e.1]]
theorem entsN_ok {e : Nat × List Nat} {od : D} (io : isImm od = true) : ∀ d ∈ entsN e od, m_is_entry [d, .int (h : Int)] = .rt (.bl false) [none, none] ∧ isImm d = true := by
  have s1 : 1 ≤ sizeLine := by decide
  intro d hd
  unfold entsN at hd
  simp only [List.mem_cons, List.not_mem_nil, or_false] at hd
  rcases hd with rfl | rfl | rfl | rfl | rfl | rfl | rfl | rfl
  · have i : isImm (.lst false [sgD e.1, ownD false e.2]) = true := by simp [imm_own]
    exact ⟨ent_nottup rfl i (fun _ z => by cases z), i⟩
  · exact ⟨ent_len (by simp) s1, by simp⟩
  · exact ⟨ent_len (by simp) (show 3 ≤ sizeLine by decide), by simp [imm_own, io]⟩
  · exact ⟨ent_nottup rfl rfl (fun _ z => by cases z), rfl⟩
  · exact ⟨ent_nottup rfl rfl (fun _ z => by cases z), rfl⟩
  · exact ⟨ent_nottup rfl rfl (fun _ z => by cases z), rfl⟩
  · exact ⟨ent_len (by decide) (by decide), rfl⟩
  · have i : isImm (ownD false e.2) = true := imm_own
    refine ⟨ent_sign i ?_, by simp [imm_own]⟩
    have il : gIsi [ownD false e.2, .gv (.ty "str")] = some (.bl false) := isi_lst_str
    unfold m_is_sign; rw [semOf_ap]; unfold b_is_sign
    simp [il]
theorem nohouse_spec (H : House h L) {n : Nat} {g : D} (hb : Bag n g) (hn : n < 2 ^ 40) :
    ∃ (g' d : D), m__law_no_house [g, houD false h L] = .rt d [some g', none] ∧ Bag (n + 8) g' ∧ m_is_house [frz d] = .rt (.bl false) [none] := by
  have l1 := H.l1
  have l6 := H.l6
  have sL : L.length ≤ sizeLine := by unfold sizeLine; omega
  obtain ⟨r4, g1, hr4, hb1, t1⟩ := take_spec (m := 11) hb (by omega) (by omega) (by omega)
  obtain ⟨k, g2, hk, hb2, t2⟩ := take_spec (m := 12) hb1 (by omega) (by omega) (by omega)
  obtain ⟨a, g3, ha, hb3, t3⟩ := take_spec (m := (L.length : Int)) hb2 (by omega) (by omega) (by omega)
  obtain ⟨w, g5, hw, hb5, t5⟩ := take_spec (m := 8) hb3 (by omega) (by omega) (by omega)
  have ha' : a < L.length := by omega
  have hr4' : r4 < odds1.length := by show r4 < 11; omega
  obtain ⟨oo, oi⟩ := odds1_ok _ (List.getElem_mem hr4')
  have oix : gIxI (.lst false odds1) (.int (r4 : Int)) = some odds1[r4] := ixI_n hr4' fun d hd => (odds1_ok d hd).2
  generalize odds1[r4] = od at *
  unfold odds1 at oix
  have c39 : CPow 10 39 := cpow_small 10 39 (by decide) (by decide)
  have iM : isImms (L.map (entD false)) = true := imms_map fun _ _ => imm_ent
  have fzM : frzs (L.map (entD false)) = L.map (entD false) := frzs_imm _ iM
  have mix : gIx (.lst false (L.map (entD false))) (.int (a : Int)) = some (entD false L[a]) := by rw [ix_l, at_nat, List.getElem?_map, List.getElem?_eq_getElem ha']; rfl
  have hm := List.getElem_mem ha'
  have m0 : houD false h L = .tup [.int (h : Int), .lst false (L.map (entD false))] := rfl
  have ee : entD false L[a] = .tup [sgD L[a].1, ownD false L[a].2] := rfl
  have s11 : 11 ≤ sizeLine := by decide
  have s8 : 8 ≤ sizeLine := by decide
  have s3 : 3 ≤ sizeLine := by decide
  have s2 : 2 ≤ sizeLine := by decide
  have s1 : 1 ≤ sizeLine := by decide
  have s0 : 0 ≤ sizeLine := by decide
  have gtM : gTuple [.lst false (L.map (entD false))] = some (.tup (L.map (entD false))) := by
    show (if isImms (L.map (entD false)) = true then _ else _) = _
    rw [if_pos iM]
  have gt : ∀ l : List Nat, gTuple [ownD false l] = some (.tup (l.map natD)) := fun l => by
    show (if isImms (l.map natD) = true then _ else _) = _
    rw [if_pos imms_nats]
  have sz : ∀ j : Nat, j ≤ 1000 → j ≤ sizeLine := fun j hj => by unfold sizeLine; omega
  have nI : ∀ l : List Nat, isImms (l.map natD) = true := fun l => imms_nats
  by_cases k3 : k < 3
  · obtain rfl | rfl | rfl : k = 0 ∨ k = 1 ∨ k = 2 := by omega
    · refine ⟨g5, od, ?_, hb5.mono (by omega), by rw [frz_imm od oi]; exact oo⟩
      unfold m__law_no_house; rw [semOf_ap]; unfold b__law_no_house
      simp [m0, t1, c39, s11, s3, s2, s1, s0, oix, t2, sL, t3, mix, ee, t5, imm_own, frz_imm od oi, oi, ixI_0, iM, fzM]
    · refine ⟨g5, .lst false [.int (h : Int), .lst false (L.map (entD false))], ?_, hb5.mono (by omega), ?_⟩
      · unfold m__law_no_house; rw [semOf_ap]; unfold b__law_no_house
        simp [m0, t1, c39, s11, s3, s2, s1, s0, oix, t2, sL, t3, mix, ee, t5, imm_own, frz_imm od oi, oi, ixI_1, iM, fzM]
      · have im : isImm (.lst false [.int (h : Int), .lst false (L.map (entD false))]) = true := by simp [iM]
        rw [frz_imm _ im]
        exact hou_nottup rfl im (fun _ e => by cases e)
    · refine ⟨g5, .tup [.int (h : Int), .lst false (L.map (entD false)), od], ?_, hb5.mono (by omega), ?_⟩
      · unfold m__law_no_house; rw [semOf_ap]; unfold b__law_no_house
        simp [m0, t1, c39, s11, s3, s2, s1, s0, oix, t2, sL, t3, mix, ee, t5, imm_own, frz_imm od oi, oi, ixI_2, iM, fzM]
      · have im : isImm (.tup [.int (h : Int), .lst false (L.map (entD false)), od]) = true := by simp [iM, oi]
        rw [frz_imm _ im]
        exact hou_len (by simp) s3
  · have k3' : ¬ (k : Int) < 3 := by omega
    by_cases ke3 : k = 3
    · subst ke3
      have hw' : w < handsN.length := by show w < 8; omega
      obtain ⟨hp, hi, hj⟩ := handsN_ok _ (List.getElem_mem hw')
      have hix : gIx (.lst true handsN) (.int (w : Int)) = some handsN[w] := by rw [ix_l, at_nat, List.getElem?_eq_getElem hw']
      generalize handsN[w] = hd at *
      unfold handsN at hix
      rw [ix_l] at hix
      refine ⟨g5, .tup [hd, .lst false (L.map (entD false))], ?_, hb5.mono (by omega), ?_⟩
      · unfold m__law_no_house; rw [semOf_ap]; unfold b__law_no_house
        simp [m0, t1, c39, s11, s8, s3, s2, s1, s0, oix, t2, sL, t3, mix, ee, t5, imm_own, frz_imm od oi, oi, hix, hi, iM, fzM]
      · have im : isImm (.tup [hd, .lst false (L.map (entD false))]) = true := by simp [iM, hi]
        rw [frz_imm _ im]
        exact hou_hands hp hi (by simp [iM]) hj
    · have ke3' : ¬ (k : Int) = 3 := by omega
      by_cases k6 : k < 6
      · have k6' : (k : Int) < 6 := by omega
        obtain rfl | rfl : k = 4 ∨ k = 5 := by omega
        · refine ⟨g5, .tup [.int (h : Int), .tup (L.map (entD false))], ?_, hb5.mono (by omega), ?_⟩
          · unfold m__law_no_house; rw [semOf_ap]; unfold b__law_no_house
            simp [m0, t1, c39, s11, s8, s3, s2, s1, s0, oix, t2, sL, t3, mix, ee, t5, imm_own, frz_imm od oi, oi, gtM, ixI_0, iM, fzM]
          · have im : isImm (.tup [.int (h : Int), .tup (L.map (entD false))]) = true := by simp [iM]
            rw [frz_imm _ im]
            exact hou_notlist H iM
        · refine ⟨g5, .tup [.int (h : Int), .lst false []], ?_, hb5.mono (by omega), ?_⟩
          · unfold m__law_no_house; rw [semOf_ap]; unfold b__law_no_house
            simp [m0, t1, c39, s11, s8, s3, s2, s1, s0, oix, t2, sL, t3, mix, ee, t5, imm_own, frz_imm od oi, oi, gtM, ixI_1, iM, fzM]
          · rw [frz_imm _ (by simp)]
            exact hou_many H rfl (.inl rfl) (by decide)
      · have k6' : ¬ (k : Int) < 6 := by omega
        have lM : (L.map (entD false)).length = L.length := List.length_map _
        have ea : ((a : Int) + 1) = ((a + 1 : Nat) : Int) := by omega
        have ow := H.own _ hm
        have l26 := H.lt _ hm
        by_cases k6e : k = 6
        · subst k6e
          have A1 : ∀ o : Bool, gAdd (.lst false (L.map (entD false))) (.lst o [.tup [sgD L[a].1, ownD false L[a].2]]) = some (.lst true (L.map (entD false) ++ [entD false L[a]])) := fun o => by
            rw [← ee]
            rw [add_ll, if_pos ⟨⟨iM, imms_all.mpr fun e he => by cases List.mem_singleton.mp he; exact imm_ent⟩, by rw [lM]; exact sz _ (by simp; omega)⟩]
          have i1 : isImms (L.map (entD false) ++ [entD false L[a]]) = true := imms_all.mpr fun e he => (List.mem_append.mp he).elim (imms_all.mp iM e) fun z => by cases List.mem_singleton.mp z; exact imm_ent
          refine ⟨g5, .tup [.int (h : Int), .lst true (L.map (entD false) ++ [entD false L[a]])], ?_, hb5.mono (by omega), ?_⟩
          · unfold m__law_no_house; rw [semOf_ap]; unfold b__law_no_house
            simp [m0, t1, c39, s11, s8, s3, s2, s1, s0, oix, t2, sL, t3, mix, ee, t5, imm_own, frz_imm od oi, oi, iM, fzM, A1]
          · have e : frz (.tup [.int (h : Int), .lst true (L.map (entD false) ++ [entD false L[a]])]) = .tup [.int (h : Int), .lst false (L.map (entD false) ++ [entD false L[a]])] := by
              show D.tup [.int (h : Int), .lst false (frzs _)] = _
              rw [frzs_imm _ i1]
            rw [e]
            by_cases c : L.length = 6
            · exact hou_many H i1 (.inr (by simp; omega)) (sz _ (by simp; omega))
            · refine hou_stop H H.rise (fun _ z => z) imm_ent rfl (by simp; omega) (.inr ⟨L[a], rfl, entry_spec l26 ow, ?_⟩)
              have hne : L ≠ [] := by intro z; rw [z] at l1; simp at l1
              rw [List.getLast?_eq_some_getLast hne]
              refine sg_nlt ?_
              rw [List.getLast_eq_getElem]
              by_cases z : a = L.length - 1
              · subst z; omega
              · have := List.pairwise_iff_getElem.mp H.rise a (L.length - 1) ha' (by omega) (by omega)
                omega
        · have k6e' : ¬ (k : Int) = 6 := by omega
          by_cases k10 : k = 10
          · subst k10
            have R1 : gRevL (.lst false (L.map (entD false))) = some (.lst true (L.map (entD false)).reverse) := by rw [revL_l, if_pos iM]
            have iR : isImms (L.map (entD false)).reverse = true := imms_all.mpr fun e he => imms_all.mp iM e (List.mem_reverse.mp he)
            by_cases c1 : 1 < L.length
            · have c1' : (1 : Int) < (L.length : Int) := by omega
              have P1 : gRep (.lst true (L.map (entD false)).reverse) (.int 1) = some (.lst true (L.map (entD false)).reverse) := by
                show (if _ then some (D.lst true (List.replicate 1 _).flatten) else none) = _
                rw [if_pos ⟨iR, by decide, by decide, by rw [List.length_reverse, lM]; exact sz _ (by simp; omega)⟩]
                simp
              have gi : gInt [.bl true] = some (.int 1) := rfl
              refine ⟨g5, .tup [.int (h : Int), .lst true (L.map (entD false)).reverse], ?_, hb5.mono (by omega), ?_⟩
              · generalize (L.map (entD false)).reverse = RV at *
                unfold m__law_no_house; rw [semOf_ap]; unfold b__law_no_house
                simp [m0, t1, c39, s11, s8, s3, s2, s1, s0, oix, t2, sL, t3, mix, ee, t5, imm_own, frz_imm od oi, oi, iM, fzM, R1, c1', gi, P1]
              · have e : frz (.tup [.int (h : Int), .lst true (L.map (entD false)).reverse]) = .tup [.int (h : Int), .lst false (L.map (entD false)).reverse] := by
                  show D.tup [.int (h : Int), .lst false (frzs _)] = _
                  rw [frzs_imm _ iR]
                rw [e, ← List.map_reverse]
                have pw : L.reverse.Pairwise fun e f => f.1 < e.1 := List.pairwise_reverse.mpr H.rise
                have hl : L.reverse.length = L.length := List.length_reverse
                have mm : ∀ e ∈ L.reverse, e ∈ L := fun e he => List.mem_reverse.mp he
                generalize L.reverse = RL at *
                match RL, hl, pw, mm with
                | [], hl, _, _ => exact absurd hl (by simp; omega)
                | [x], hl, _, _ => exact absurd hl (by simp; omega)
                | x :: y :: r, hl, pw, mm =>
                  have hy := mm y (by simp)
                  have hx := mm x (by simp)
                  have lxy := (List.pairwise_cons.mp pw).1 y List.mem_cons_self
                  have := hou_stop H (E := [x]) (d := entD false y) (rest := r.map (entD false)) (by simp) (fun e he => by cases List.mem_singleton.mp he; exact hx) imm_ent (imms_map fun _ _ => imm_ent) (by simp at hl ⊢; omega) (.inr ⟨y, rfl, entry_spec (H.lt y hy) (H.own y hy), sg_nlt (by show ¬ x.1 < y.1; omega)⟩)
                  exact this
            · have c1' : ¬ (1 : Int) < (L.length : Int) := by omega
              have P0 : gRep (.lst true (L.map (entD false)).reverse) (.int 0) = some (.lst true []) := by
                show (if _ then some (D.lst true (List.replicate 0 _).flatten) else none) = _
                rw [if_pos ⟨iR, by decide, by decide, sz _ (by simp)⟩]
                simp
              have gi : gInt [.bl false] = some (.int 0) := rfl
              refine ⟨g5, .tup [.int (h : Int), .lst true []], ?_, hb5.mono (by omega), ?_⟩
              · generalize (L.map (entD false)).reverse = RV at *
                unfold m__law_no_house; rw [semOf_ap]; unfold b__law_no_house
                simp [m0, t1, c39, s11, s8, s3, s2, s1, s0, oix, t2, sL, t3, mix, ee, t5, imm_own, frz_imm od oi, oi, iM, fzM, R1, c1', gi, P0]
              · exact hou_many (xs := []) H rfl (.inl rfl) (by decide)
          · have k10' : ¬ (k : Int) = 10 := by omega
            by_cases k11 : k = 11
            · subst k11
              have it7 : itemsS (.str "abcdefg") = some ((List.range 7).map sgD) := by kernel_rfl
              have lcc : ∀ v0 v1 v2 v3 v4 v5 v6 v7 v8 v9 v10 v11 : Option D, fLc (fIt itemsS (fK (.str "abcdefg"))) (gN 12) fYes (fTup (fCons (fVar 12) (fCons (fLst (fCons (fK (.int 0)) fNil)) fNil))) [12] [v0, v1, v2, v3, v4, v5, v6, v7, v8, v9, v10, v11, none] = .ok (.lst true ((List.range 7).map fun j => .tup [sgD j, .lst true [.int 0]])) [v0, v1, v2, v3, v4, v5, v6, v7, v8, v9, v10, v11, none] := by
                intro v0 v1 v2 v3 v4 v5 v6 v7 v8 v9 v10 v11
                refine lc_all (g := sgD) (xs := List.range 7) (by simp [it7]) (by simp) (by decide) fun x _ => ?_
                exact ⟨[v0, v1, v2, v3, v4, v5, v6, v7, v8, v9, v10, v11, some (sgD x)], by simp, _, by simp; rfl, by simp⟩
              refine ⟨g5, .tup [.int (h : Int), .lst true ((List.range 7).map fun j => .tup [sgD j, .lst true [.int 0]])], ?_, hb5.mono (by omega), ?_⟩
              · unfold m__law_no_house; rw [semOf_ap]; unfold b__law_no_house
                simp [m0, t1, c39, s11, s8, s3, s2, s1, s0, oix, t2, sL, t3, mix, ee, t5, imm_own, frz_imm od oi, oi, iM, fzM, lcc]
              · have fr : frzs ((List.range 7).map fun j => D.tup [sgD j, .lst true [.int 0]]) = (List.range 7).map fun j => D.tup [sgD j, .lst false [.int 0]] := frzs_mapf fun _ _ => rfl
                have e : frz (.tup [.int (h : Int), .lst true ((List.range 7).map fun j => .tup [sgD j, .lst true [.int 0]])]) = .tup [.int (h : Int), .lst false ((List.range 7).map fun j => .tup [sgD j, .lst false [.int 0]])] := by
                  show D.tup [.int (h : Int), .lst false (frzs _)] = _
                  rw [fr]
                rw [e]
                exact hou_many H (imms_map fun _ _ => rfl) (.inr (by rw [List.length_map, List.length_range]; omega)) (by rw [List.length_map, List.length_range]; decide)
            · have k11' : ¬ (k : Int) = 11 := by omega
              have S1 := sl_to (o := false) iM (p := a)
              have S2 := sl_from (o := false) iM (p := a + 1) (by rw [lM]; omega)
              have iT := isImms_take a iM
              have iD := isImms_drop (a + 1) iM
              -- the end, whatever the entry
              have fin : ∀ d : D, isImm d = true → m_is_entry [d, .int (h : Int)] = .rt (.bl false) [none, none] → gAdd (.lst true ((L.map (entD false)).take a)) (.lst true [d]) = some (.lst true ((L.map (entD false)).take a ++ [d])) ∧ gAdd (.lst true ((L.map (entD false)).take a ++ [d])) (.lst true ((L.map (entD false)).drop (a + 1))) = some (.lst true ((L.map (entD false)).take a ++ [d] ++ (L.map (entD false)).drop (a + 1))) ∧
                  m_is_house [frz (.tup [.int (h : Int), .lst true ((L.map (entD false)).take a ++ [d] ++ (L.map (entD false)).drop (a + 1))])] = .rt (.bl false) [none] := fun d id ed => by
                have i1 : isImms ((L.map (entD false)).take a ++ [d]) = true := imms_all.mpr fun e he => (List.mem_append.mp he).elim (imms_all.mp iT e) fun z => by cases List.mem_singleton.mp z; exact id
                have i2 : isImms ((L.map (entD false)).take a ++ [d] ++ (L.map (entD false)).drop (a + 1)) = true := imms_all.mpr fun e he => (List.mem_append.mp he).elim (imms_all.mp i1 e) (imms_all.mp iD e)
                refine ⟨?_, ?_, ?_⟩
                · rw [add_ll, if_pos ⟨⟨iT, imms_all.mpr fun e he => by cases List.mem_singleton.mp he; exact id⟩, by rw [List.length_take, lM]; exact sz _ (by simp; omega)⟩]
                · rw [add_ll, if_pos ⟨⟨i1, iD⟩, by simp only [List.length_append, List.length_take, List.length_drop, lM, List.length_cons, List.length_nil]; exact sz _ (by omega)⟩]
                · have e : frz (.tup [.int (h : Int), .lst true ((L.map (entD false)).take a ++ [d] ++ (L.map (entD false)).drop (a + 1))]) = .tup [.int (h : Int), .lst false ((L.map (entD false)).take a ++ [d] ++ (L.map (entD false)).drop (a + 1))] := by
                    show D.tup [.int (h : Int), .lst false (frzs _)] = _
                    rw [frzs_imm _ i2]
                  rw [e, ← List.map_take, ← List.map_drop, List.append_assoc, List.singleton_append]
                  exact hou_stop H (H.rise.sublist (List.take_sublist _ _)) (fun e he => List.mem_of_mem_take he) id (imms_map fun _ _ => imm_ent) (by rw [List.length_take, List.length_map, List.length_drop]; omega) (.inl ed)
              have hw8 : w < 8 := by omega
              by_cases k7 : k = 7
              · subst k7
                have hw' : w < noSigns.length := hw8
                obtain ⟨so, si⟩ := noSigns_ok _ (List.getElem_mem hw')
                have six : gIxI (.lst false noSigns) (.int (w : Int)) = some noSigns[w] := ixI_n hw' fun d hd => (noSigns_ok d hd).2
                generalize noSigns[w] = sx at *
                unfold noSigns at six
                have im : isImm (.tup [sx, ownD false L[a].2]) = true := by simp [si, imm_own]
                obtain ⟨V1, V2, V3⟩ := fin _ im (ent_sign si so)
                generalize hZ : (L.map (entD false)).take a ++ [.tup [sx, ownD false L[a].2]] ++ (L.map (entD false)).drop (a + 1) = ZZ at *
                refine ⟨g5, .tup [.int (h : Int), .lst true ZZ], ?_, hb5.mono (by omega), V3⟩
                generalize (L.map (entD false)).take a = TA at *
                generalize (L.map (entD false)).drop (a + 1) = DA at *
                unfold m__law_no_house; rw [semOf_ap]; unfold b__law_no_house
                simp [m0, t1, c39, s11, s8, s3, s2, s1, s0, oix, t2, sL, t3, mix, ee, t5, imm_own, frz_imm od oi, oi, iM, fzM, six, frz_imm sx si, si, ea, S1, S2, V1, V2, -Int.natCast_add]
              · have k7' : ¬ (k : Int) = 7 := by omega
                by_cases k8 : k = 8
                · subst k8
                  have hw' : w < (ownsN h L[a].2).length := hw8
                  obtain ⟨bo, bi⟩ := ownsN_ok H hm _ (List.getElem_mem hw')
                  have bix : gIxI (.lst false (ownsN h L[a].2)) (.int (w : Int)) = some (ownsN h L[a].2)[w] := ixI_n hw' fun d hd => (ownsN_ok H hm d hd).2
                  generalize (ownsN h L[a].2)[w] = bx at *
                  unfold ownsN at bix
                  have lw : (L[a].2).length ≤ 4 := by
                    have := rise_len L[a].2 0 h ow.rise fun x hx => ⟨by omega, ow.lt x hx⟩
                    have := H.h4
                    omega
                  have a0 : gAdd (ownD false L[a].2) (ownD false L[a].2) = some (.lst true ((L[a].2).map natD ++ (L[a].2).map natD)) := by
                    unfold ownD
                    rw [add_ll, if_pos ⟨⟨nI _, nI _⟩, by rw [List.length_map]; exact sz _ (by omega)⟩]
                  have a1 : ∀ o : Bool, gAdd (ownD false L[a].2) (.lst o [.int (h : Int)]) = some (.lst true ((L[a].2).map natD ++ [.int (h : Int)])) := fun o => by
                    unfold ownD
                    rw [add_ll, if_pos ⟨⟨nI _, rfl⟩, by rw [List.length_map]; exact sz _ (by simp; omega)⟩]
                  have a2 : ∀ o : Bool, gAdd (.lst o [.int (-1)]) (ownD false L[a].2) = some (.lst true (.int (-1) :: (L[a].2).map natD)) := fun o => by
                    unfold ownD
                    rw [add_ll, if_pos ⟨⟨rfl, nI _⟩, by rw [List.length_map]; exact sz _ (by simp; omega)⟩]
                    rfl
                  have np : ∀ ys : List D, (∀ e ∈ ys, isImm e = true) → frzs ((L[a].2).map natD ++ ys) = (L[a].2).map natD ++ ys := fun ys hy => frzs_imm _ (imms_all.mpr fun e he => (List.mem_append.mp he).elim (imms_all.mp (nI _) e) (hy e))
                  have f0 := np _ (imms_all.mp (nI L[a].2))
                  have f1 := np [.int (h : Int)] fun e he => by cases List.mem_singleton.mp he; rfl
                  have f2 : frzs ((L[a].2).map natD) = (L[a].2).map natD := frzs_imm _ (nI _)
                  have im : isImm (.tup [sgD L[a].1, bx]) = true := by simp [bi]
                  obtain ⟨V1, V2, V3⟩ := fin _ im bo
                  generalize hZ : (L.map (entD false)).take a ++ [.tup [sgD L[a].1, bx]] ++ (L.map (entD false)).drop (a + 1) = ZZ at *
                  refine ⟨g5, .tup [.int (h : Int), .lst true ZZ], ?_, hb5.mono (by omega), V3⟩
                  generalize (L.map (entD false)).take a = TA at *
                  generalize (L.map (entD false)).drop (a + 1) = DA at *
                  unfold m__law_no_house; rw [semOf_ap]; unfold b__law_no_house
                  simp [m0, t1, c39, s11, s8, s3, s2, s1, s0, oix, t2, sL, t3, mix, ee, t5, imm_own, frz_imm od oi, oi, iM, fzM, a0, a1, a2, gt, f0, f1, f2, bix, frz_imm bx bi, bi, ea, S1, S2, V1, V2, -Int.natCast_add]
                · have k9 : k = 9 := by omega
                  subst k9
                  have hw' : w < (entsN L[a] od).length := hw8
                  obtain ⟨no, ni⟩ := entsN_ok (h := h) (e := L[a]) oi _ (List.getElem_mem hw')
                  have nix : gIxI (.lst false (entsN L[a] od)) (.int (w : Int)) = some (entsN L[a] od)[w] := ixI_n hw' fun d hd => (entsN_ok (h := h) oi d hd).2
                  generalize (entsN L[a] od)[w] = nx at *
                  unfold entsN at nix
                  obtain ⟨V1, V2, V3⟩ := fin _ ni no
                  generalize hZ : (L.map (entD false)).take a ++ [nx] ++ (L.map (entD false)).drop (a + 1) = ZZ at *
                  refine ⟨g5, .tup [.int (h : Int), .lst true ZZ], ?_, hb5.mono (by omega), V3⟩
                  generalize (L.map (entD false)).take a = TA at *
                  generalize (L.map (entD false)).drop (a + 1) = DA at *
                  unfold m__law_no_house; rw [semOf_ap]; unfold b__law_no_house
                  simp [m0, t1, c39, s11, s8, s3, s2, s1, s0, oix, t2, sL, t3, mix, ee, t5, imm_own, frz_imm od oi, oi, iM, fzM, nix, frz_imm nx ni, ni, ea, S1, S2, V1, V2, -Int.natCast_add]
theorem lookset_bad (H : House h L) {d : D} (n : Nos h L d) : m_show_set [houD false h L, d] = .exc ⟨"NoSet", []⟩ [none, none] := by
  have lh := look_spec H
  have fH : frz (houD false h L) = houD false h L := by simp
  have fd := frz_imm _ n.2
  have t := n.1
  have ls : m_look_set [houD false h L, d] = .exc ⟨"NoSet", []⟩ [none, none] := by
    unfold m_look_set; rw [semOf_ap]; unfold b_look_set
    generalize houD false h L = HH at *
    simp [lh, fH, fd, t]
  unfold m_show_set; rw [semOf_ap]; unfold b_show_set
  generalize houD false h L = HH at *
  simp [lh, fH, fd, ls]
theorem lookhou_bad {d : D} (hb : m_is_house [d] = .rt (.bl false) [none]) (i : isImm d = true) : m_look_house [d] = .exc ⟨"NoHouse", []⟩ [none] := by
  unfold m_look_house; rw [semOf_ap]; unfold b_look_house
  simp [frz_imm d i, hb]
theorem showhouse_bad {d0 d : D} (hb : m_is_house [d0] = .rt (.bl false) [none]) (i0 : isImm d0 = true) : m_show_set [d0, d] = .exc ⟨"NoHouse", []⟩ [none, none] := by
  have lh := lookhou_bad hb i0
  have f0 := frz_imm _ i0
  unfold m_show_set; rw [semOf_ap]; unfold b_show_set
  simp [lh, f0]
theorem turn63 (ns : List Int) (k : Nat) {v1 v2 v3 v4 v5 v6 v7 v8 v9 : Option D} : ∃ v1' v2' v3' v4' v5' v6' v7' v8' v9', stepS (gN 1) l_law_1 (.int (k : Int)) [some (.rol (ns.map D.int)), v1, v2, v3, v4, v5, v6, v7, v8, v9]
    = .nx [some (.rol (ns.map D.int)), v1', v2', v3', v4', v5', v6', v7', v8', v9'] := by
  obtain ⟨g0, hb0, tb⟩ := bag_spec (cellM ns k + (k : Int))
  obtain ⟨g1, h, L, hb1, H, th⟩ := house_spec hb0 (by omega)
  obtain ⟨r, g2, hr, hb2, t1⟩ := take_spec (m := 5) hb1 (by omega) (by omega) (by omega)
  obtain ⟨t, g3, ht, hb3, t2⟩ := take_spec (m := 12) hb2 (by omega) (by omega) (by omega)
  obtain ⟨g4, s, e, hb4, ok, ft, sz, rws⟩ := lawset_spec H 13 _ (1 + r) (1 + t) g3 hb3 (by omega) (by omega) (by omega) (by omega) (by omega) (by omega)
  have G : Good h L s := ⟨ok, ft, by omega, by omega⟩
  have l1 := H.l1
  have l6 := H.l6
  have e : m__law_set [g3, houD false h L, .int (1 + (r : Int)), .int (1 + (t : Int))] = .rt s.d [some g4, none, none, none] := by
    have q3 : ((1 + r : Nat) : Int) = 1 + (r : Int) := by omega
    have q4 : ((1 + t : Nat) : Int) = 1 + (t : Int) := by omega
    rw [← q3, ← q4]; exact e
  have ce : m__law_cell [.rol (ns.map D.int), .int (k : Int)] = .rt (.int (cellM ns k)) [none, none] := cell_spec ns k
  have ad : gAdd (.int (cellM ns k)) (.int (k : Int)) = some (.int (cellM ns k + (k : Int))) := rfl
  have dz := dep_size s
  have wl := ws_len s
  have gz := G.size
  have sw : m__law_set_words [s.d] = _ := setwords_spec s 13 (by omega) (by omega)
  have jn : gJoin (.str " ") (.lst true (s.ws.map D.str)) = some (.str (rowT s.ws)) := row_join (o := true) (by omega) (ws_ok H s ok ft)
  have sh := showset_spec H G
  have rd := readset_spec H G
  have ss := sameset_spec (s := s) (by omega)
  have st := samestr_spec (x := rowT s.ws)
  -- the longest
  obtain ⟨e0, he0⟩ : ∃ e0, e0 = L[0] := ⟨_, rfl⟩
  have hm0 : e0 ∈ L := he0 ▸ List.getElem_mem _
  have okq : (Hs.row true (rep 4 [e0.1])).Ok L := ⟨fun x hx => by
    have := rep_mem hx
    rw [List.mem_singleton] at this; subst this; exact ⟨e0, hm0, rfl⟩, by rw [rep_len]; simp⟩
  obtain ⟨z1, z2, z3, z4, z5⟩ := negs_facts (L := L) (.row true (rep 4 [e0.1])) 11
  have szr : (Hs.row true (rep 4 [e0.1])).size = 1 := rfl
  have fitr : (Hs.row true (rep 4 [e0.1])).fit = true := by
    show decide ((rep 4 [e0.1]).length ≤ 4) = true
    rw [rep_len]; rfl
  have GM : Good h L (negs 11 (.row true (rep 4 [e0.1]))) := ⟨z5 okq, by rw [z3]; exact fitr, by rw [z1, szr]; omega, by rw [z2]; show 1 ≤ 5; omega⟩
  have dp := deep_spec (s := .row true (rep 4 [e0.1])) (k := 11) (by omega)
  have shM := showset_spec H GM
  have rdM := readset_spec H GM
  have ssM := sameset_spec (s := negs 11 (.row true (rep 4 [e0.1]))) (by rw [z4]; show 1 + 11 ≤ 13; omega)
  generalize negs 11 (.row true (rep 4 [e0.1])) = sM at *
  have m4 : gMulX (sgD e0.1) (.int 4) = some (.str (rowS (rep 4 [e0.1]))) := mulX_row (R := [e0.1]) (k := 4) (by simp) (by omega)
  have dp : m__law_deep [.tup [.str "again", .str (rowS (rep 4 [e0.1]))], .int 11] = .rt sM.d [none, none] := dp
  obtain ⟨g5, dn, en, hb5, nos⟩ := noset_spec H G hb4 (by omega)
  obtain ⟨g6, dh, eh, hb6, noh⟩ := nohouse_spec H hb5 (by omega)
  have cp := copy_spec (h := h) H.l6
  have inh := isImm_frz dh
  have fnh : frz (frz dh) = frz dh := frz_imm _ inh
  have bad1 := lookset_bad H nos
  have bad2 := showhouse_bad (d := dn) noh inh
  have fH : frz (houD false h L) = houD false h L := by simp
  have fHt : frz (houD true h L) = houD false h L := by simp
  have hix : gIx (houD false h L) (.int 1) = some (.lst false (L.map (entD false))) := hou_ix1
  have j0 : gIx (.lst false (L.map (entD false))) (.int 0) = some (entD false e0) := by
    rw [ix_l, at_0, List.getElem?_map, List.getElem?_eq_getElem (show 0 < L.length by omega), he0]; rfl
  have j1 : gIx (entD false e0) (.int 0) = some (sgD e0.1) := ent_0
  have is := imm_hs s
  have fs' := frz_hs s
  have isM := imm_hs sM
  have fsM := frz_hs sM
  have fdn := frz_imm _ nos.2
  have idn := nos.2
  have s2 : 2 ≤ sizeLine := by decide
  have iw : isImms (s.ws.map D.str) = true := imms_map fun _ _ => rfl
  have neh : gNe (houD false h L) (houD false h L) = some (.bl false) := by
    have ss : Sh 60 (houD false h L) := (sh_hou H.lt).mono (by omega)
    have s1 := ss.shaped (by omega)
    have e1 : gEq (houD false h L) (houD false h L) = some (.bl true) := by
      show (if _ then some (D.bl (PyData.eqv _ _)) else none) = _
      rw [if_pos ⟨s1, s1⟩, SeqAt.eqv_refl _ ss.1]
    show (match gEq (houD false h L) (houD false h L) with | some (D.bl b) => some (D.bl (!b)) | _ => none) = _
    rw [e1]; rfl
  refine ⟨some (.int (k : Int)), some g6, some (houD false h L), some (houD false h L), some s.d, some (.str (rowT s.ws)), some sM.d, some dn, some dh, ?_⟩
  rw [ap_step]; unfold l_law_1
  generalize D.lst true (s.ws.map D.str) = WT at *
  generalize rowT s.ws = RT at *
  generalize rowT sM.ws = RM at *
  generalize rowS (rep 4 [e0.1]) = R4 at *
  generalize s.d = SD at *
  generalize sM.d = MD at *
  generalize sgD e0.1 = SG at *
  generalize entD false e0 = EE at *
  generalize L.map (entD false) = LE at *
  generalize houD true h L = HT at *
  generalize houD false h L = HH at *
  simp [-ix_t, -ix_l, ce, ad, tb, th, fHt, fH, cp, t1, t2, e, sw, jn, sh, rd, ss, st, is, fs', hix, j0, j1, m4, dp, shM, rdM, ssM, isM, fsM, en, eh, bad1, bad2, fnh, inh, fdn, idn, neh, s2, frzE]
theorem m_law_true (ns : List Int) (_ : ns.length ≤ 63) : ∃ o, m_law [.rol (ns.map D.int)] = .rt (.bl true) o := by
  obtain ⟨n, hn1, hn2, ht⟩ := turns2_spec 3 10 ns
  rw [show ((3 : Nat) : Int) = 3 from rfl, show ((10 : Nat) : Int) = 10 from rfl] at ht
  obtain ⟨ρ', lp, v1, v2, v3, v4, v5, v6, v7, v8, v9, e⟩ := loopR (step := stepS (gN 1) l_law_1) (n := n) (ρ := [some (.rol (ns.map D.int)), none, none, none, none, none, none, none, none, none])
    (fun k ρ => ∃ v1 v2 v3 v4 v5 v6 v7 v8 v9, ρ = [some (.rol (ns.map D.int)), v1, v2, v3, v4, v5, v6, v7, v8, v9])
    ⟨_, _, _, _, _, _, _, _, _, rfl⟩ (by
      rintro j ρ hj ⟨v1, v2, v3, v4, v5, v6, v7, v8, v9, rfl⟩
      obtain ⟨_, _, _, _, _, _, _, _, _, e⟩ := turn63 ns j (v1 := v1) (v2 := v2) (v3 := v3) (v4 := v4) (v5 := v5) (v6 := v6) (v7 := v7) (v8 := v8) (v9 := v9)
      exact ⟨_, e, _, _, _, _, _, _, _, _, _, rfl⟩)
  subst e
  have r2 := rng1_n (n := n) (by omega)
  unfold m_law; rw [semOf_ap]; unfold b_law
  simp [-ap_vN, ht, r2, lp]
end
end Law
open PySem PySem.W PyProof.Rows
set_option pp.maxSteps 20 in
set_option pp.deepTerms false in
set_option maxHeartbeats 0 in
theorem PySem.Challenge.cw_handsapart_k63_sets_written_holds : PySem.Challenge.rw_handsapart_k63_sets_written.Holds := by
  w_on; o_law; k_head; (case hw => w_witness2)
  k_fill
  refine Hap.walkDL (l := PySem.Challenge.rw_handsapart_k63_sets_written) (k := 32) (x := "_law_script") (sem := Law.m_law) rfl rfl (by decide) (fun w h Y => by first | exact PySem.W.km_in_of Y | exact PySem.W.kIn_of Y) ?F Law.m_law_true
  case F =>
    intro w mg fa h Y KX G hmg
    refine' Law.all_mk KX G hmg ?a0 ?l0 ?c0 ?k0 ?a1 ?l1 ?c1 ?k1 ?a2 ?l2 ?c2 ?k2 ?a3 ?l3 ?c3 ?k3 ?a4 ?l4 ?c4 ?k4 ?a5 ?l5 ?c5 ?k5 ?a6 ?l6 ?c6 ?k6 ?a7 ?l7 ?c7 ?k7 ?a8 ?l8 ?c8 ?k8 ?a9 ?l9 ?c9 ?k9 ?a10 ?l10 ?c10 ?k10 ?a11 ?l11 ?c11 ?k11 ?a12 ?l12 ?c12 ?k12 ?a13 ?l13 ?c13 ?k13 ?a14 ?l14 ?c14 ?k14 ?a15 ?l15 ?c15 ?k15 ?a16 ?l16 ?c16 ?k16 ?a17 ?l17 ?c17 ?k17 ?a18 ?l18 ?c18 ?k18 ?a19 ?l19 ?c19 ?k19 ?a20 ?l20 ?c20 ?k20 ?a21 ?l21 ?c21 ?k21 ?a22 ?l22 ?c22 ?k22 ?a23 ?l23 ?c23 ?k23 ?a24 ?l24 ?c24 ?k24 ?a25 ?l25 ?c25 ?k25 ?a26 ?l26 ?c26 ?k26 ?a27 ?l27 ?c27 ?k27 ?a28 ?l28 ?c28 ?k28 ?a29 ?l29 ?c29 ?k29 ?a30 ?l30 ?c30 ?k30 ?a31 ?l31 ?c31 ?k31 ?a32 ?l32 ?c32 ?k32 ?a33 ?l33 ?c33 ?k33 ?a34 ?l34 ?c34 ?k34 ?a35 ?l35 ?c35 ?k35 ?a36 ?l36 ?c36 ?k36 ?lC ?vT ?hC ?nT ?tT ?EgH ?EqH ?EmH ?EtH ?Eg0 ?Eq0 ?Em0 ?Et0 ?Ep0 ?Ega0 ?Egt0 ?Eca0 ?Eex0 ?Eg1 ?Eq1 ?Em1 ?Et1 ?Ep1 ?Ega1 ?Egt1 ?Eca1 ?Eex1 ?Eg2 ?Eq2 ?Em2 ?Et2 ?Ep2 ?Ega2 ?Egt2 ?Eca2 ?Eex2 ?Eg3 ?Eq3 ?Em3 ?Et3 ?Ep3 ?Ega3 ?Egt3 ?Eca3 ?Eex3 ?Eg4 ?Eq4 ?Em4 ?Et4 ?Ep4 ?Ega4 ?Egt4 ?Eca4 ?Eex4 ?Eg5 ?Eq5 ?Em5 ?Et5 ?Ep5 ?Ega5 ?Egt5 ?Eca5 ?Eex5 ?Eg6 ?Eq6 ?Em6 ?Et6 ?Ep6 ?Ega6 ?Egt6 ?Eca6 ?Eex6 ?Eg7 ?Eq7 ?Em7 ?Et7 ?Ep7 ?Ega7 ?Egt7 ?Eca7 ?Eex7 ?Eg8 ?Eq8 ?Em8 ?Et8 ?Ep8 ?Ega8 ?Egt8 ?Eca8 ?Eg9 ?Eq9 ?Em9 ?Et9 ?Ep9 ?Ega9 ?Egt9 ?Eca9 ?Eex9 ?Eg10 ?Eq10 ?Em10 ?Et10 ?Ep10 ?Ega10 ?Egt10 ?Eca10 ?Eex10 ?Eg11 ?Eq11 ?Em11 ?Et11 ?Ep11 ?Ega11 ?Egt11 ?Eca11 ?Eg12 ?Eq12 ?Em12 ?Et12 ?Ep12 ?Ega12 ?Egt12 ?Eca12 ?Eex12 ?Eg13 ?Eq13 ?Em13 ?Et13 ?Ep13 ?Ega13 ?Egt13 ?Eca13 ?Eex13 ?Eg14 ?Eq14 ?Em14 ?Et14 ?Ep14 ?Ega14 ?Egt14 ?Eca14 ?Eex14 ?Enn ?Etk ?End ?a38 ?l38 ?c38 ?k38 ?a39 ?l39 ?c39 ?k39 ?a37 ?l37 ?c37 ?k37 ?z_ValueError ?z_abs ?z_all ?z_bool ?z_int ?z_isinstance ?z_len ?z_list ?z_max ?z_min ?z_range ?z_str ?z_sum ?z_tuple ?z_zip ?e_LETTERS_houses ?e_FEWEST_HANDS ?e_MOST_HANDS ?e_MOST_LETTERS_houses ?e_MOST_LETTERS_sets ?e_MOST_ROWS ?e_MOST_TUPLES_sets ?e_WITH_ROW ?m_WITH_ROW ?e_WITH_ONE ?m_WITH_ONE ?e_WITH_TWO ?m_WITH_TWO ?e_LETTERS_texts ?e_MOST_TUPLES_texts ?e_PARTS ?m_PARTS ?s_PARTS ?p_PARTS_0 ?p_PARTS_1 ?p_PARTS_2 ?p_PARTS_3 ?p_PARTS_4 ?p_PARTS_5
    (case a0 => k_is)
    (case l0 => k_is)
    (case c0 => k_is)
    (case k0 => k_is)
    (case a1 => k_is)
    (case l1 => k_is)
    (case c1 => k_is)
    (case k1 => k_is)
    (case a2 => k_is)
    (case l2 => k_is)
    (case c2 => k_is)
    (case k2 => k_is)
    (case a3 => k_is)
    (case l3 => k_is)
    (case c3 => k_is)
    (case k3 => k_is)
    (case a4 => k_is)
    (case l4 => k_is)
    (case c4 => k_is)
    (case k4 => k_is)
    (case a5 => k_is)
    (case l5 => k_is)
    (case c5 => k_is)
    (case k5 => k_is)
    (case a6 => k_is)
    (case l6 => k_is)
    (case c6 => k_is)
    (case k6 => k_is)
    (case a7 => k_is)
    (case l7 => k_is)
    (case c7 => k_is)
    (case k7 => k_is)
    (case a8 => k_is)
    (case l8 => k_is)
    (case c8 => k_is)
    (case k8 => k_is)
    (case a9 => k_is)
    (case l9 => k_is)
    (case c9 => k_is)
    (case k9 => k_is)
    (case a10 => k_is)
    (case l10 => k_is)
    (case c10 => k_is)
    (case k10 => k_is)
    (case a11 => k_is)
    (case l11 => k_is)
    (case c11 => k_is)
    (case k11 => k_is)
    (case a12 => k_is)
    (case l12 => k_is)
    (case c12 => k_is)
    (case k12 => k_is)
    (case a13 => k_is)
    (case l13 => k_is)
    (case c13 => k_is)
    (case k13 => k_is)
    (case a14 => k_is)
    (case l14 => k_is)
    (case c14 => k_is)
    (case k14 => k_is)
    (case a15 => k_is)
    (case l15 => k_is)
    (case c15 => k_is)
    (case k15 => k_is)
    (case a16 => k_is)
    (case l16 => k_is)
    (case c16 => k_is)
    (case k16 => k_is)
    (case a17 => k_is)
    (case l17 => k_is)
    (case c17 => k_is)
    (case k17 => k_is)
    (case a18 => k_is)
    (case l18 => k_is)
    (case c18 => k_is)
    (case k18 => k_is)
    (case a19 => k_is)
    (case l19 => k_is)
    (case c19 => k_is)
    (case k19 => k_is)
    (case a20 => k_is)
    (case l20 => k_is)
    (case c20 => k_is)
    (case k20 => k_is)
    (case a21 => k_is)
    (case l21 => k_is)
    (case c21 => k_is)
    (case k21 => k_is)
    (case a22 => k_is)
    (case l22 => k_is)
    (case c22 => k_is)
    (case k22 => k_is)
    (case a23 => k_is)
    (case l23 => k_is)
    (case c23 => k_is)
    (case k23 => k_is)
    (case a24 => k_is)
    (case l24 => k_is)
    (case c24 => k_is)
    (case k24 => k_is)
    (case a25 => k_is)
    (case l25 => k_is)
    (case c25 => k_is)
    (case k25 => k_is)
    (case a26 => k_is)
    (case l26 => k_is)
    (case c26 => k_is)
    (case k26 => k_is)
    (case a27 => k_is)
    (case l27 => k_is)
    (case c27 => k_is)
    (case k27 => k_is)
    (case a28 => k_is)
    (case l28 => k_is)
    (case c28 => k_is)
    (case k28 => k_is)
    (case a29 => k_is)
    (case l29 => k_is)
    (case c29 => k_is)
    (case k29 => k_is)
    (case a30 => k_is)
    (case l30 => k_is)
    (case c30 => k_is)
    (case k30 => k_is)
    (case a31 => k_is)
    (case l31 => k_is)
    (case c31 => k_is)
    (case k31 => k_is)
    (case a32 => k_is)
    (case l32 => k_is)
    (case c32 => k_is)
    (case k32 => k_is)
    (case a33 => k_is)
    (case l33 => k_is)
    (case c33 => k_is)
    (case k33 => k_is)
    (case a34 => k_is)
    (case l34 => k_is)
    (case c34 => k_is)
    (case k34 => k_is)
    (case a35 => k_is)
    (case l35 => k_is)
    (case c35 => k_is)
    (case k35 => k_is)
    (case a36 => k_is)
    (case l36 => k_is)
    (case c36 => k_is)
    (case k36 => k_is)
    (case lC => k_is)
    (case vT => rfl)
    (case hC => kernel_rfl)
    (case nT => kernel_rfl)
    (case tT => exact PySem.W.km_tabs_of Y _ (by simp))
    (case EgH => k_is)
    (case EqH => k_is)
    (case EmH => rfl)
    (case EtH => k_is)
    (case Eg0 => k_is)
    (case Eq0 => k_is)
    (case Em0 => rfl)
    (case Et0 => k_is)
    (case Ep0 => k_is)
    (case Ega0 => k_is)
    (case Egt0 => k_is)
    (case Eca0 => k_is)
    (case Eex0 => k_exc)
    (case Eg1 => k_is)
    (case Eq1 => k_is)
    (case Em1 => rfl)
    (case Et1 => k_is)
    (case Ep1 => k_is)
    (case Ega1 => k_is)
    (case Egt1 => k_is)
    (case Eca1 => k_is)
    (case Eex1 => k_exc)
    (case Eg2 => k_is)
    (case Eq2 => k_is)
    (case Em2 => rfl)
    (case Et2 => k_is)
    (case Ep2 => k_is)
    (case Ega2 => k_is)
    (case Egt2 => k_is)
    (case Eca2 => k_is)
    (case Eex2 => k_exc)
    (case Eg3 => k_is)
    (case Eq3 => k_is)
    (case Em3 => rfl)
    (case Et3 => k_is)
    (case Ep3 => k_is)
    (case Ega3 => k_is)
    (case Egt3 => k_is)
    (case Eca3 => k_is)
    (case Eex3 => k_exc)
    (case Eg4 => k_is)
    (case Eq4 => k_is)
    (case Em4 => rfl)
    (case Et4 => k_is)
    (case Ep4 => k_is)
    (case Ega4 => k_is)
    (case Egt4 => k_is)
    (case Eca4 => k_is)
    (case Eex4 => k_exc)
    (case Eg5 => k_is)
    (case Eq5 => k_is)
    (case Em5 => rfl)
    (case Et5 => k_is)
    (case Ep5 => k_is)
    (case Ega5 => k_is)
    (case Egt5 => k_is)
    (case Eca5 => k_is)
    (case Eex5 => k_exc)
    (case Eg6 => k_is)
    (case Eq6 => k_is)
    (case Em6 => rfl)
    (case Et6 => k_is)
    (case Ep6 => k_is)
    (case Ega6 => k_is)
    (case Egt6 => k_is)
    (case Eca6 => k_is)
    (case Eex6 => k_exc)
    (case Eg7 => k_is)
    (case Eq7 => k_is)
    (case Em7 => rfl)
    (case Et7 => k_is)
    (case Ep7 => k_is)
    (case Ega7 => k_is)
    (case Egt7 => k_is)
    (case Eca7 => k_is)
    (case Eex7 => k_exc)
    (case Eg8 => k_is)
    (case Eq8 => k_is)
    (case Em8 => rfl)
    (case Et8 => k_is)
    (case Ep8 => k_is)
    (case Ega8 => k_is)
    (case Egt8 => k_is)
    (case Eca8 => k_is)
    (case Eg9 => k_is)
    (case Eq9 => k_is)
    (case Em9 => rfl)
    (case Et9 => k_is)
    (case Ep9 => k_is)
    (case Ega9 => k_is)
    (case Egt9 => k_is)
    (case Eca9 => k_is)
    (case Eex9 => k_exc)
    (case Eg10 => k_is)
    (case Eq10 => k_is)
    (case Em10 => rfl)
    (case Et10 => k_is)
    (case Ep10 => k_is)
    (case Ega10 => k_is)
    (case Egt10 => k_is)
    (case Eca10 => k_is)
    (case Eex10 => k_exc)
    (case Eg11 => k_is)
    (case Eq11 => k_is)
    (case Em11 => rfl)
    (case Et11 => k_is)
    (case Ep11 => k_is)
    (case Ega11 => k_is)
    (case Egt11 => k_is)
    (case Eca11 => k_is)
    (case Eg12 => k_is)
    (case Eq12 => k_is)
    (case Em12 => rfl)
    (case Et12 => k_is)
    (case Ep12 => k_is)
    (case Ega12 => k_is)
    (case Egt12 => k_is)
    (case Eca12 => k_is)
    (case Eex12 => k_exc)
    (case Eg13 => k_is)
    (case Eq13 => k_is)
    (case Em13 => rfl)
    (case Et13 => k_is)
    (case Ep13 => k_is)
    (case Ega13 => k_is)
    (case Egt13 => k_is)
    (case Eca13 => k_is)
    (case Eex13 => k_exc)
    (case Eg14 => k_is)
    (case Eq14 => k_is)
    (case Em14 => rfl)
    (case Et14 => k_is)
    (case Ep14 => k_is)
    (case Ega14 => k_is)
    (case Egt14 => k_is)
    (case Eca14 => k_is)
    (case Eex14 => k_exc)
    (case Enn => k_is)
    (case Etk => k_is)
    (case End => decide)
    (case a38 => k_is)
    (case l38 => k_is)
    (case c38 => k_is)
    (case k38 => k_is)
    (case a39 => k_is)
    (case l39 => k_is)
    (case c39 => k_is)
    (case k39 => k_is)
    (case a37 => k_is)
    (case l37 => k_is)
    (case c37 => k_is)
    (case k37 => k_is)
    (case z_ValueError => k_is)
    (case z_abs => k_is)
    (case z_all => k_is)
    (case z_bool => k_is)
    (case z_int => k_is)
    (case z_isinstance => k_is)
    (case z_len => k_is)
    (case z_list => k_is)
    (case z_max => k_is)
    (case z_min => k_is)
    (case z_range => k_is)
    (case z_str => k_is)
    (case z_sum => k_is)
    (case z_tuple => k_is)
    (case z_zip => k_is)
    (case e_LETTERS_houses => k_is)
    (case e_FEWEST_HANDS => k_is)
    (case e_MOST_HANDS => k_is)
    (case e_MOST_LETTERS_houses => k_is)
    (case e_MOST_LETTERS_sets => k_is)
    (case e_MOST_ROWS => k_is)
    (case e_MOST_TUPLES_sets => k_is)
    (case e_WITH_ROW => k_is)
    (case m_WITH_ROW => k_is)
    (case e_WITH_ONE => k_is)
    (case m_WITH_ONE => k_is)
    (case e_WITH_TWO => k_is)
    (case m_WITH_TWO => k_is)
    (case e_LETTERS_texts => k_is)
    (case e_MOST_TUPLES_texts => k_is)
    (case e_PARTS => k_is)
    (case m_PARTS => k_is)
    (case s_PARTS => rfl)
    (case p_PARTS_0 => k_is)
    (case p_PARTS_1 => k_is)
    (case p_PARTS_2 => k_is)
    (case p_PARTS_3 => k_is)
    (case p_PARTS_4 => k_is)
    (case p_PARTS_5 => k_is)
