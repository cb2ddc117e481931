import PyProof.Rows.All
import Wide.All
import OpenK.AllK
import Wide.FinOn
import HandS.ForMost
import HandS.ForExc
import HandS.Deep
import HandS.CallSlots
import HandS.ExcCtx
import HandS.Lambda
import HandS.IsInst
import HandS.TupLe
import HandS.Style
import HandS.WideBits
import KE.GoesMore
import HandS.Strs
import HandS.SetFor
import HandS.Zip
import KE.DataMinMax
import KE.SortData
import HandS.Small
import HandS.Text
import PyProof.StrBlock2
import HandS.HotCalls
import KE.KExcIs
import HandS.EndTab
import KE.KDictZip
import HandS.TupSets
import KE.KDictKeyed
import KE.SortKeyHeap
import HandS.Conv
import HandS.NoneIn
import HandS.More
import HandS.TupAny
import HandS.TupLen
import PySem.Challenge.RW_handsapart_k45_rows_apart
set_option autoImplicit false
set_option Elab.async false
set_option linter.all false
set_option maxRecDepth 100000
namespace Hap
open PySem PySem.Spec PyProof.Rows L2
abbrev AS := Addr → Prop
/-- the tables of code objects that stand in the heap, with the names of their codes -/
class TabC where
  T : List (Addr × Str)
/-- not such a table -/
def NT (o : HO) : Prop := ∀ ps, o ≠ .tbl ps
theorem nt_lst {vs} : NT (.lst vs) := fun _ z => nomatch z
theorem nt_tup {vs} : NT (.tup vs) := fun _ z => nomatch z
theorem nt_dK {vs} : NT (.dK vs) := fun _ z => nomatch z
theorem nt_dT {vs} : NT (.dT vs) := fun _ z => nomatch z
theorem nt_ins {C dx fs} : NT (.ins C dx fs) := fun _ z => nomatch z
theorem nt_frz {o u} : NT (.frz o u) := fun _ z => nomatch z
/-- a thing that may be written -/
inductive Nd : HO → Prop
  | lst {vs} : Nd (.lst vs)
  | dK {k} : Nd (.dK k)
  | dT {k} : Nd (.dT k)
  | ins {C dx fs} : Nd (.ins C dx fs)
theorem tabs_write {T : List (Addr × Str)} {H : Hp} {a : Addr} {o u : HO} (t : LamX.Tabs T H) (e : H a = some u) (n : Nd u) : LamX.Tabs T (upd H a o) := fun p hp => by
  obtain ⟨ps, h1, h2, h3⟩ := t p hp
  have ne : ∀ {b : Addr} {w : HO}, H b = some w → w ≠ u → b ≠ a := fun {b w} hb hw z => by
    subst z
    rw [e] at hb
    exact hw (Option.some.inj hb).symm
  refine ⟨ps, by rw [upd_ne (ne h1 fun z => by cases n <;> cases z)]; exact h1, h2, fun pos cv hc => ?_⟩
  obtain ⟨c, e1, e2⟩ := h3 pos cv hc
  refine ⟨c, e1, ?_⟩
  rw [upd_ne (ne e2 fun z => by unfold LamX.CodeO at z; cases n <;> cases z)]
  exact e2
inductive D where
  | non
  | bl (b : Bool)
  | int (i : Int)
  | str (x : Str)
  | lst (o : Bool) (xs : List D)
  | tup (xs : List D)
  | dct (o : Bool) (ks : List Key) (xs : List D)
  | dcT (o : Bool) (ks : List (List Key)) (xs : List D)
  | rol (xs : List D)
  | gv (v : V)
  | obj (o : Bool) (C : Addr) (ns : List Str) (xs : List D)
theorem rd_mono {H H' : Hp} {a : Addr} {u : HO} (r : Rd H a u) (h1 : H a = some u → H' a = some u) (h2 : ∀ o, H a = some (.frz o u) → H' a = some (.frz o u)) : Rd H' a u := r.elim (fun e => .inl (h1 e)) fun ⟨o, e⟩ => .inr ⟨o, h2 o e⟩
theorem DGet.kR {H : Hp} {a : Addr} {kvs : List (Key × V)} {k : Key} (e : Rd H a (.dK kvs)) : DGet H a (kV k) (valV kvs k) := .inl ⟨kvs, k, e, rfl, rfl⟩
theorem DGet.tR {H : Hp} {a b : Addr} {kvs : List (List Key × V)} {k : List Key} (e : Rd H a (.dT kvs)) (eb : H b = some (.tup (k.map kV))) : DGet H a (.ref b) (valV kvs k) := .inr ⟨kvs, k, b, e, rfl, eb, rfl⟩
mutual
/-- no node of one's own -/
def isImm : D → Bool
  | .lst o xs => !o && isImms xs
  | .tup xs => isImms xs
  | .dct o _ xs => !o && isImms xs
  | .dcT o _ xs => !o && isImms xs
  | .rol xs => isImms xs
  | .obj o _ _ xs => !o && isImms xs
  | _ => true
def isImms : List D → Bool
  | [] => true
  | d :: ds => isImm d && isImms ds
end
mutual
/-- all nodes given up -/
def frz : D → D
  | .lst _ xs => .lst false (frzs xs)
  | .tup xs => .tup (frzs xs)
  | .dct _ ks xs => .dct false ks (frzs xs)
  | .dcT _ ks xs => .dcT false ks (frzs xs)
  | .rol xs => .rol (frzs xs)
  | .non => .non
  | .bl b => .bl b
  | .int i => .int i
  | .str x => .str x
  | .gv v => .gv v
  | .obj _ C ns xs => .obj false C ns (frzs xs)
def frzs : List D → List D
  | [] => []
  | d :: ds => frz d :: frzs ds
end
/-- an address that is read, not by the heap of the program's own making: frozen, or of the module -/
def Rol (K : PySem.W.Frag) (H : Hp) (P : AS) (p : Addr) (vs : List V) : Prop :=
  (P p ∧ (H p = some (.lst vs) ∨ ∃ o, H p = some (.frz o (.lst vs)))) ∨
    ∃ (o : Obj) (its : Array Value) (n : Nat), K.lookup p = some o ∧ o.cls = .type "list" ∧ o.dict = none ∧ o.data = .seq its n ∧ its.size ≤ sizeLine ∧ Vals vs its.toList
mutual
/-- a value that stands for a datum; z: with the ownership (F: at most these addresses are one's own) -/
inductive Rl (z : Bool) (K : PySem.W.Frag) (P : AS) (H : Hp) : D → V → AS → Prop
  | non {F} : Rl z K P H .non .non F
  | bl {b F} : Rl z K P H (.bl b) (.bl b) F
  | int {i F} : Rl z K P H (.int i) (.int i) F
  | str {x F} : Rl z K P H (.str x) (.str x) F
  | lstO {p vs ds F F'} : H p = some (.lst vs) → (z = true → F p) → (∀ b, F' b → F b ∧ b ≠ p) → Rls z K P H ds vs F' → Rl z K P H (.lst true ds) (.ref p) F
  | lstI {p vs ds F} : H p = some (.lst vs) → P p → isImms ds = true → Rls z K P H ds vs (fun _ => False) → Rl z K P H (.lst false ds) (.ref p) F
  | tup {p vs ds F} : H p = some (.tup vs) → P p → Rls z K P H ds vs F → Rl z K P H (.tup ds) (.ref p) F
  | dctO {p kvs ks vs ds F F'} : H p = some (.dK kvs) → kvs = List.zip ks vs → ks.length = vs.length → (z = true → F p) → (∀ b, F' b → F b ∧ b ≠ p) → Rls z K P H ds vs F' → Rl z K P H (.dct true ks ds) (.ref p) F
  | dctI {p kvs ks vs ds F} : Rd H p (.dK kvs) → kvs = List.zip ks vs → ks.length = vs.length → P p → isImms ds = true → Rls z K P H ds vs (fun _ => False) → Rl z K P H (.dct false ks ds) (.ref p) F
  | dcTO {p kvs ks vs ds F F'} : H p = some (.dT kvs) → kvs = List.zip ks vs → ks.length = vs.length → (z = true → F p) → (∀ b, F' b → F b ∧ b ≠ p) → Rls z K P H ds vs F' → Rl z K P H (.dcT true ks ds) (.ref p) F
  | dcTI {p kvs ks vs ds F} : Rd H p (.dT kvs) → kvs = List.zip ks vs → ks.length = vs.length → P p → isImms ds = true → Rls z K P H ds vs (fun _ => False) → Rl z K P H (.dcT false ks ds) (.ref p) F
  | rol {p vs ds F} : Rol K H P p vs → isImms ds = true → Rls z K P H ds vs (fun _ => False) → Rl z K P H (.rol ds) (.ref p) F
  | gv {v F} : Rl z K P H (.gv v) v F
  | objO {p C dx fs ns vs ds F F'} : H p = some (.ins C dx fs) → fs = List.zip ns vs → ns.length = vs.length → (z = true → F p) → (∀ b, F' b → F b ∧ b ≠ p) → Rls z K P H ds vs F' → Rl z K P H (.obj true C ns ds) (.ref p) F
  | objI {p C dx fs ns vs ds F} : H p = some (.ins C dx fs) → fs = List.zip ns vs → ns.length = vs.length → P p → isImms ds = true → Rls z K P H ds vs (fun _ => False) → Rl z K P H (.obj false C ns ds) (.ref p) F
inductive Rls (z : Bool) (K : PySem.W.Frag) (P : AS) (H : Hp) : List D → List V → AS → Prop
  | nil {F} : Rls z K P H [] [] F
  | cons {d v ds vs F F1 F2} : Rl z K P H d v F1 → Rls z K P H ds vs F2 → (∀ b, F1 b → F b) → (∀ b, F2 b → F b) → (∀ b, F1 b → F2 b → False) → Rls z K P H (d :: ds) (v :: vs) F
end
section
variable {z z' : Bool} {K : PySem.W.Frag} {P P' : AS} {H H' : Hp} {F F' : AS} {d : D} {v : V} {ds : List D} {vs : List V}
theorem Rol.mono {p : Addr} (h : Rol K H P p vs) (hP : ∀ b, P b → P' b) (hH : ∀ b o, H b = some o → (z = true → P b ∨ F b) → NT o → H' b = some o) : Rol K H' P' p vs := by
  rcases h with ⟨hp, e | ⟨o, e⟩⟩ | h
  · exact .inl ⟨hP _ hp, .inl (hH _ _ e (fun _ => .inl hp) nt_lst)⟩
  · exact .inl ⟨hP _ hp, .inr ⟨o, hH _ _ e (fun _ => .inl hp) nt_frz⟩⟩
  · exact .inr h
mutual
theorem rl_mono {z : Bool} {K : PySem.W.Frag} {P P' : AS} {H H' : Hp} {F F' : AS} {d : D} {v : V} (h : Rl z K P H d v F) (hP : ∀ b, P b → P' b) (hH : ∀ b o, H b = some o → (z = true → P b ∨ F b) → NT o → H' b = some o) (hF : ∀ b, F b → F' b) : Rl z K P' H' d v F' := by
  cases h with
  | non => exact .non
  | bl => exact .bl
  | int => exact .int
  | str => exact .str
  | lstO e f s r => exact .lstO (hH _ _ e (fun q => .inr (f q)) nt_lst) (fun q => hF _ (f q)) (fun b q => ⟨hF _ (s b q).1, (s b q).2⟩) (rls_mono r hP (fun b o e q => hH b o e fun w => (q w).imp id fun t => (s b t).1) fun _ q => q)
  | lstI e p i r => exact .lstI (hH _ _ e (fun _ => .inl p) nt_lst) (hP _ p) i (rls_mono r hP (fun b o e q => hH b o e fun w => (q w).imp id fun t => t.elim) fun _ q => q)
  | tup e p r => exact .tup (hH _ _ e (fun _ => .inl p) nt_tup) (hP _ p) (rls_mono r hP hH hF)
  | dctO e k l f s r => exact .dctO (hH _ _ e (fun q => .inr (f q)) nt_dK) k l (fun q => hF _ (f q)) (fun b q => ⟨hF _ (s b q).1, (s b q).2⟩) (rls_mono r hP (fun b o e q => hH b o e fun w => (q w).imp id fun t => (s b t).1) fun _ q => q)
  | dctI e k l p i r => exact .dctI (rd_mono e (fun e => hH _ _ e (fun _ => .inl p) nt_dK) fun o e => hH _ _ e (fun _ => .inl p) nt_frz) k l (hP _ p) i (rls_mono r hP (fun b o e q => hH b o e fun w => (q w).imp id fun t => t.elim) fun _ q => q)
  | dcTO e k l f s r => exact .dcTO (hH _ _ e (fun q => .inr (f q)) nt_dT) k l (fun q => hF _ (f q)) (fun b q => ⟨hF _ (s b q).1, (s b q).2⟩) (rls_mono r hP (fun b o e q => hH b o e fun w => (q w).imp id fun t => (s b t).1) fun _ q => q)
  | dcTI e k l p i r => exact .dcTI (rd_mono e (fun e => hH _ _ e (fun _ => .inl p) nt_dT) fun o e => hH _ _ e (fun _ => .inl p) nt_frz) k l (hP _ p) i (rls_mono r hP (fun b o e q => hH b o e fun w => (q w).imp id fun t => t.elim) fun _ q => q)
  | rol e i r => exact .rol (Rol.mono e hP hH) i (rls_mono r hP (fun b o e q => hH b o e fun w => (q w).imp id fun t => t.elim) fun _ q => q)
  | gv => exact .gv
  | objO e k l f s r => exact .objO (hH _ _ e (fun q => .inr (f q)) nt_ins) k l (fun q => hF _ (f q)) (fun b q => ⟨hF _ (s b q).1, (s b q).2⟩) (rls_mono r hP (fun b o e q => hH b o e fun w => (q w).imp id fun t => (s b t).1) fun _ q => q)
  | objI e k l p i r => exact .objI (hH _ _ e (fun _ => .inl p) nt_ins) k l (hP _ p) i (rls_mono r hP (fun b o e q => hH b o e fun w => (q w).imp id fun t => t.elim) fun _ q => q)
theorem rls_mono {z : Bool} {K : PySem.W.Frag} {P P' : AS} {H H' : Hp} {F F' : AS} {ds : List D} {vs : List V} (h : Rls z K P H ds vs F) (hP : ∀ b, P b → P' b) (hH : ∀ b o, H b = some o → (z = true → P b ∨ F b) → NT o → H' b = some o) (hF : ∀ b, F b → F' b) : Rls z K P' H' ds vs F' := by
  cases h with
  | nil => exact .nil
  | cons r rs s1 s2 dj => exact .cons (rl_mono r hP (fun b o e q => hH b o e fun w => (q w).imp id (s1 b)) fun _ q => q) (rls_mono rs hP (fun b o e q => hH b o e fun w => (q w).imp id (s2 b)) fun _ q => q) (fun b q => hF _ (s1 b q)) (fun b q => hF _ (s2 b q)) dj
end
mutual
theorem rl_view {z : Bool} {K : PySem.W.Frag} {P : AS} {H : Hp} {F F' : AS} {d : D} {v : V} (h : Rl z K P H d v F) : Rl false K P H d v F' := by
  cases h with
  | non => exact .non
  | bl => exact .bl
  | int => exact .int
  | str => exact .str
  | lstO e f s r => exact .lstO (F' := fun _ => False) e (fun q => by cases q) (fun b q => q.elim) (rls_view r)
  | lstI e p i r => exact .lstI e p i (rls_view r)
  | tup e p r => exact .tup e p (rls_view r)
  | dctO e k l f s r => exact .dctO (F' := fun _ => False) e k l (fun q => by cases q) (fun b q => q.elim) (rls_view r)
  | dctI e k l p i r => exact .dctI e k l p i (rls_view r)
  | dcTO e k l f s r => exact .dcTO (F' := fun _ => False) e k l (fun q => by cases q) (fun b q => q.elim) (rls_view r)
  | dcTI e k l p i r => exact .dcTI e k l p i (rls_view r)
  | rol e i r => exact .rol e i (rls_view r)
  | gv => exact .gv
  | objO e k l f s r => exact .objO (F' := fun _ => False) e k l (fun q => by cases q) (fun b q => q.elim) (rls_view r)
  | objI e k l p i r => exact .objI e k l p i (rls_view r)
theorem rls_view {z : Bool} {K : PySem.W.Frag} {P : AS} {H : Hp} {F F' : AS} {ds : List D} {vs : List V} (h : Rls z K P H ds vs F) : Rls false K P H ds vs F' := by
  cases h with
  | nil => exact .nil
  | cons r rs s1 s2 dj => exact .cons (F1 := fun _ => False) (F2 := fun _ => False) (rl_view r) (rls_view rs) (fun b q => q.elim) (fun b q => q.elim) fun _ q => q.elim
end
mutual
theorem rl_imm {z z' : Bool} {K : PySem.W.Frag} {P : AS} {H : Hp} {F F' : AS} {d : D} {v : V} (h : Rl z K P H d v F) (i : isImm d = true) : Rl z' K P H d v F' := by
  cases h with
  | non => exact .non
  | bl => exact .bl
  | int => exact .int
  | str => exact .str
  | lstO e f s r => simp [isImm] at i
  | lstI e p i r => exact .lstI e p i (rls_imm r i)
  | tup e p r => exact .tup e p (rls_imm r (by simpa [isImm] using i))
  | dctO e k l f s r => simp [isImm] at i
  | dctI e k l p i r => exact .dctI e k l p i (rls_imm r i)
  | dcTO e k l f s r => simp [isImm] at i
  | dcTI e k l p i r => exact .dcTI e k l p i (rls_imm r i)
  | rol e i r => exact .rol e i (rls_imm r i)
  | gv => exact .gv
  | objO e k l f s r => simp [isImm] at i
  | objI e k l p i r => exact .objI e k l p i (rls_imm r i)
theorem rls_imm {z z' : Bool} {K : PySem.W.Frag} {P : AS} {H : Hp} {F F' : AS} {ds : List D} {vs : List V} (h : Rls z K P H ds vs F) (i : isImms ds = true) : Rls z' K P H ds vs F' := by
  cases h with
  | nil => exact .nil
  | cons r rs s1 s2 dj =>
    simp only [isImms, Bool.and_eq_true] at i
    exact .cons (F1 := fun _ => False) (F2 := fun _ => False) (rl_imm r i.1) (rls_imm rs i.2) (fun b q => q.elim) (fun b q => q.elim) fun _ q => q.elim
end
mutual
theorem isImm_frz : ∀ d : D, isImm (frz d) = true
  | .non => rfl
  | .bl _ => rfl
  | .int _ => rfl
  | .str _ => rfl
  | .lst _ xs => by simp only [frz, isImm, isImms_frzs xs]; rfl
  | .tup xs => by simp only [frz, isImm, isImms_frzs xs]
  | .dct _ _ xs => by simp only [frz, isImm, isImms_frzs xs]; rfl
  | .dcT _ _ xs => by simp only [frz, isImm, isImms_frzs xs]; rfl
  | .rol xs => by simp only [frz, isImm, isImms_frzs xs]
  | .gv _ => rfl
  | .obj _ _ _ xs => by simp only [frz, isImm, isImms_frzs xs]; rfl
theorem isImms_frzs : ∀ ds : List D, isImms (frzs ds) = true
  | [] => rfl
  | d :: ds => by simp only [frzs, isImms, isImm_frz d, isImms_frzs ds]; rfl
end
mutual
theorem rl_frz {z : Bool} {K : PySem.W.Frag} {P P' : AS} {H : Hp} {F F' : AS} {d : D} {v : V} (h : Rl true K P H d v F) (hP : ∀ b, P b → P' b) (hF : ∀ b, F b → P' b) : Rl z K P' H (frz d) v F' := by
  cases h with
  | non => exact .non
  | bl => exact .bl
  | int => exact .int
  | str => exact .str
  | lstO e f s r => exact .lstI e (hF _ (f rfl)) (isImms_frzs _) (rls_frz r hP fun b q => hF _ (s b q).1)
  | lstI e p i r => exact .lstI e (hP _ p) (isImms_frzs _) (rls_frz r hP fun b q => q.elim)
  | tup e p r => exact .tup e (hP _ p) (rls_frz r hP hF)
  | dctO e k l f s r => exact .dctI (.inl e) k l (hF _ (f rfl)) (isImms_frzs _) (rls_frz r hP fun b q => hF _ (s b q).1)
  | dctI e k l p i r => exact .dctI e k l (hP _ p) (isImms_frzs _) (rls_frz r hP fun b q => q.elim)
  | dcTO e k l f s r => exact .dcTI (.inl e) k l (hF _ (f rfl)) (isImms_frzs _) (rls_frz r hP fun b q => hF _ (s b q).1)
  | dcTI e k l p i r => exact .dcTI e k l (hP _ p) (isImms_frzs _) (rls_frz r hP fun b q => q.elim)
  | rol e i r => exact .rol (Rol.mono (z := true) (F := fun _ => False) e hP fun b o e _ _ => e) (isImms_frzs _) (rls_frz r hP fun b q => q.elim)
  | gv => exact .gv
  | objO e k l f s r => exact .objI e k l (hF _ (f rfl)) (isImms_frzs _) (rls_frz r hP fun b q => hF _ (s b q).1)
  | objI e k l p i r => exact .objI e k l (hP _ p) (isImms_frzs _) (rls_frz r hP fun b q => q.elim)
theorem rls_frz {z : Bool} {K : PySem.W.Frag} {P P' : AS} {H : Hp} {F F' : AS} {ds : List D} {vs : List V} (h : Rls true K P H ds vs F) (hP : ∀ b, P b → P' b) (hF : ∀ b, F b → P' b) : Rls z K P' H (frzs ds) vs F' := by
  cases h with
  | nil => exact .nil
  | cons r rs s1 s2 dj => exact .cons (F1 := fun _ => False) (F2 := fun _ => False) (rl_frz r hP fun b q => hF _ (s1 b q)) (rls_frz rs hP fun b q => hF _ (s2 b q)) (fun b q => q.elim) (fun b q => q.elim) fun _ q => q.elim
end
theorem rls_len {z : Bool} {K : PySem.W.Frag} {P : AS} {H : Hp} : ∀ {ds : List D} {vs : List V} {F : AS}, Rls z K P H ds vs F → ds.length = vs.length
  | _, _, _, .nil => rfl
  | _, _, _, .cons _ t _ _ _ => congrArg (· + 1) (rls_len t)
theorem rls_get {z : Bool} {K : PySem.W.Frag} {P : AS} {H : Hp} : ∀ {ds : List D} {vs : List V} {F : AS} {i : Nat} {d : D}, Rls z K P H ds vs F → ds[i]? = some d → ∃ v, vs[i]? = some v ∧ Rl z K P H d v F
  | _, _, _, _, _, .nil, e => by simp at e
  | _, _, _, 0, _, .cons r _ s1 _ _, e => by
    simp at e; subst e
    exact ⟨_, rfl, rl_mono r (fun _ q => q) (fun _ _ e _ _ => e) s1⟩
  | _, _, _, i + 1, _, .cons _ t _ s2 _, e => by
    obtain ⟨v, e1, r⟩ := rls_get (i := i) t (by simpa using e)
    exact ⟨v, by simpa using e1, rl_mono r (fun _ q => q) (fun _ _ e _ _ => e) s2⟩
end
end Hap
namespace Hap
open PySem PySem.Spec PyProof.Rows L2
abbrev Ev := List (Option D)
/-- an exception as a datum: its class's name, its fields -/
structure DX where
  cls : Str
  args : List D
inductive R (α : Type) where
  | ok (a : α) (ρ : Ev)
  | exc (x : DX) (ρ : Ev)
  | stk
inductive RS where
  | nx (ρ : Ev)
  | rt (d : D) (ρ : Ev)
  | bk (ρ : Ev)
  | ct (ρ : Ev)
  | exc (x : DX) (ρ : Ev)
  | stk
abbrev FP := Nat → AS
def U (FE : FP) : AS := fun b => ∃ i, FE i b
structure Stt [TabC] (K : PySem.W.Frag) (P : AS) (H : Hp) (ρ : Ev) (σ : L2.St) (FE : FP) : Prop where
  pin : ∀ b, P b → H b ≠ none
  fin : ∀ i b, FE i b → H b ≠ none ∧ ¬ P b
  dj : ∀ i j b, FE i b → FE j b → i = j
  rel : ∀ i d, ρ[i]? = some (some d) → ∃ v, σ[i]? = some (some v) ∧ Rl true K P H d v (FE i)
  len : ρ.length = σ.length
  tab : LamX.Tabs TabC.T H
/-- a step of the heap: what is not in U stays; what is given up (P) or in use behind it (U') was in U or is new -/
structure Tr (P : AS) (H : Hp) (U : AS) (P' : AS) (H' : Hp) (U' : AS) : Prop where
  frame : ∀ b o, H b = some o → ¬ U b → NT o → H' b = some o
  mono : ∀ b, P b → P' b
  back : ∀ b, P' b → P b ∨ U b ∨ H b = none
  sub : ∀ b, U' b → U b ∨ H b = none
  alive : ∀ b, H b ≠ none → H' b ≠ none
structure Tmp (K : PySem.W.Frag) (P : AS) (H : Hp) (FE : FP) (d : D) (v : V) (F : AS) : Prop where
  rl : Rl true K P H d v F
  own : ∀ b, F b → H b ≠ none ∧ ¬ P b ∧ ¬ U FE b
structure Tmps (K : PySem.W.Frag) (P : AS) (H : Hp) (FE : FP) (ds : List D) (vs : List V) (F : AS) : Prop where
  rl : Rls true K P H ds vs F
  own : ∀ b, F b → H b ≠ none ∧ ¬ P b ∧ ¬ U FE b
section
variable [TabC] {K : PySem.W.Frag} {P P' P1 P2 : AS} {H H' H1 H2 : Hp} {U0 U' U1 U2 F F1 : AS} {FE FE1 FE2 : FP} {ρ ρ1 : Ev} {σ : L2.St} {d : D} {v : V} {ds : List D} {vs : List V}
theorem Tr.refl : Tr P H U0 P H U0 := ⟨fun _ _ e _ _ => e, fun _ q => q, fun _ q => .inl q, fun _ q => .inl q, fun _ q => q⟩
theorem Tr.seq (a : Tr P H U0 P1 H1 (fun b => U1 b ∨ F1 b)) (c : Tr P1 H1 U1 P2 H2 U2) : Tr P H U0 P2 H2 (fun b => U2 b ∨ F1 b) where
  frame := fun b o e n nt => c.frame b o (a.frame b o e n nt) (fun q => (a.sub b (.inl q)).elim n (fun z => by rw [e] at z; cases z)) nt
  mono := fun b q => c.mono b (a.mono b q)
  back := fun b q => by
    rcases c.back b q with q | q | q
    · exact a.back b q
    · exact (a.sub b (.inl q)).elim (fun z => .inr (.inl z)) fun z => .inr (.inr z)
    · refine .inr (.inr ?_)
      cases e : H b with
      | none => rfl
      | some o => exact absurd q (a.alive b (by rw [e]; simp))
  sub := fun b q => by
    rcases q with q | q
    · rcases c.sub b q with q | q
      · exact a.sub b (.inl q)
      · refine .inr ?_
        cases e : H b with
        | none => rfl
        | some o => exact absurd q (a.alive b (by rw [e]; simp))
    · exact a.sub b (.inr q)
  alive := fun b q => c.alive b (a.alive b q)
theorem Tr.less (a : Tr P H U0 P1 H1 U1) (h : ∀ b, U2 b → U1 b) : Tr P H U0 P1 H1 U2 := ⟨a.frame, a.mono, a.back, fun b q => a.sub b (h b q), a.alive⟩
theorem Tr.trans (a : Tr P H U0 P1 H1 U1) (c : Tr P1 H1 U1 P2 H2 U2) : Tr P H U0 P2 H2 U2 :=
  (Tr.seq (F1 := fun _ => False) (a.less fun b q => q.elim id False.elim) c).less fun b q => .inl q
/-- what is at hand stays through a step that does not own it -/
theorem Tmp.step (t : Tmp K P1 H1 FE1 d v F1) (S : Stt K P1 H1 ρ1 σ FE1) (c : Tr P1 H1 (U FE1) P2 H2 (fun b => U FE2 b ∨ F b)) : Tmp K P2 H2 FE2 d v F1 ∧ ∀ b, F1 b → F b → False := by
  refine ⟨⟨rl_mono t.rl c.mono (fun b o e q => c.frame b o e fun ⟨i, z⟩ => ?_) fun _ q => q, fun b q => ?_⟩, fun b q z => ?_⟩
  · rcases q rfl with q | q
    · exact (S.fin i b z).2 q
    · exact (t.own b q).2.2 ⟨i, z⟩
  · obtain ⟨h1, h2, h3⟩ := t.own b q
    exact ⟨c.alive b h1, fun z => (c.back b z).elim h2 (fun z => z.elim h3 h1), fun z => (c.sub b (.inl z)).elim h3 h1⟩
  · obtain ⟨h1, h2, h3⟩ := t.own b q
    exact (c.sub b (.inr z)).elim h3 h1
theorem Tmps.step (t : Tmps K P1 H1 FE1 ds vs F1) (S : Stt K P1 H1 ρ1 σ FE1) (c : Tr P1 H1 (U FE1) P2 H2 (fun b => U FE2 b ∨ F b)) : Tmps K P2 H2 FE2 ds vs F1 ∧ ∀ b, F1 b → F b → False := by
  refine ⟨⟨rls_mono t.rl c.mono (fun b o e q => c.frame b o e fun ⟨i, z⟩ => ?_) fun _ q => q, fun b q => ?_⟩, fun b q z => ?_⟩
  · rcases q rfl with q | q
    · exact (S.fin i b z).2 q
    · exact (t.own b q).2.2 ⟨i, z⟩
  · obtain ⟨h1, h2, h3⟩ := t.own b q
    exact ⟨c.alive b h1, fun z => (c.back b z).elim h2 (fun z => z.elim h3 h1), fun z => (c.sub b (.inl z)).elim h3 h1⟩
  · obtain ⟨h1, h2, h3⟩ := t.own b q
    exact (c.sub b (.inr z)).elim h3 h1
/-- only new things come -/
structure New [TabC] (P : AS) (H : Hp) (P' : AS) (H' : Hp) (F : AS) : Prop where
  same : ∀ b o, H b = some o → NT o → H' b = some o
  alive : ∀ b, H b ≠ none → H' b ≠ none
  tab : LamX.Tabs TabC.T H → LamX.Tabs TabC.T H'
  mono : ∀ b, P b → P' b
  back : ∀ b, P' b → P b ∨ (H b = none ∧ H' b ≠ none)
  own : ∀ b, F b → H b = none ∧ H' b ≠ none ∧ ¬ P' b
theorem New.refl : New P H P H (fun _ => False) := ⟨fun _ _ e _ => e, fun _ q => q, id, fun _ q => q, fun _ q => .inl q, fun _ q => q.elim⟩
theorem New.less (n : New P H P' H' F) (h : ∀ b, F1 b → F b) : New P H P' H' F1 := ⟨n.same, n.alive, n.tab, n.mono, n.back, fun b q => n.own b (h b q)⟩
theorem New.stt (n : New P H P' H' F) (S : Stt K P H ρ σ FE) : Stt K P' H' ρ σ FE where
  pin := fun b q => by
    rcases n.back b q with z | z
    · exact n.alive b (S.pin b z)
    · exact z.2
  fin := fun i b q => by
    obtain ⟨h1, h2⟩ := S.fin i b q
    exact ⟨n.alive b h1, fun z => (n.back b z).elim h2 fun z => h1 z.1⟩
  dj := S.dj
  rel := fun i d e => by
    obtain ⟨v, e1, r⟩ := S.rel i d e
    exact ⟨v, e1, rl_mono r n.mono (fun b o e _ => n.same b o e) fun _ q => q⟩
  len := S.len
  tab := n.tab S.tab
theorem New.tr (n : New P H P' H' F) : Tr P H U0 P' H' (fun b => U0 b ∨ F b) where
  frame := fun b o e _ => n.same b o e
  mono := n.mono
  back := fun b q => (n.back b q).imp id fun z => .inr z.1
  sub := fun b q => q.imp id fun z => (n.own b z).1
  alive := n.alive
theorem New.tmp (n : New P H P' H' F) (S : Stt K P H ρ σ FE) (r : Rl true K P' H' d v F) : Tmp K P' H' FE d v F :=
  ⟨r, fun b q => ⟨(n.own b q).2.1, (n.own b q).2.2, fun ⟨i, z⟩ => (S.fin i b z).1 (n.own b q).1⟩⟩
theorem New.trans {P3 : AS} {H3 : Hp} {F3 : AS} (n : New P H P1 H1 F1) (m : New P1 H1 P3 H3 F3) : New P H P3 H3 (fun b => F1 b ∨ F3 b) where
  same := fun b o e nt => m.same b o (n.same b o e nt) nt
  alive := fun b q => m.alive b (n.alive b q)
  tab := fun t => m.tab (n.tab t)
  mono := fun b q => m.mono b (n.mono b q)
  back := fun b q => by
    rcases m.back b q with z | z
    · exact (n.back b z).imp id fun w => ⟨w.1, m.alive b w.2⟩
    · refine .inr ⟨?_, z.2⟩
      cases e : H b with
      | none => rfl
      | some o => exact absurd z.1 (n.alive b (by rw [e]; simp))
  own := fun b q => by
    rcases q with q | q
    · obtain ⟨h1, h2, h3⟩ := n.own b q
      exact ⟨h1, m.alive b h2, fun z => (m.back b z).elim h3 fun w => h2 w.1⟩
    · obtain ⟨h1, h2, h3⟩ := m.own b q
      refine ⟨?_, h2, h3⟩
      cases e : H b with
      | none => rfl
      | some o => exact absurd h1 (n.alive b (by rw [e]; simp))
theorem alive_upd {p : Addr} {o : HO} (b : Addr) (h : H b ≠ none) : upd H p o b ≠ none := by
  unfold upd
  split
  · simp
  · exact h
/-- a new list -/
theorem New.lst {p : Addr} {o : HO} (hp : H p = none) (pin : ∀ b, P b → H b ≠ none) : New P H P (upd H p o) (fun b => b = p) where
  same := fun b u e _ => by rw [upd_ne (ne_of_none e hp)]; exact e
  alive := alive_upd
  tab := fun t => t.ext fun b u e => by rw [upd_ne (ne_of_none e hp)]; exact e
  mono := fun _ q => q
  back := fun _ q => .inl q
  own := fun b q => by
    subst q
    exact ⟨hp, by rw [upd_same]; simp, fun z => pin _ z hp⟩
/-- a new thing given up at once -/
theorem New.tup {p : Addr} {o : HO} (hp : H p = none) : New P H (fun b => P b ∨ b = p) (upd H p o) (fun _ => False) where
  same := fun b u e _ => by rw [upd_ne (ne_of_none e hp)]; exact e
  alive := alive_upd
  tab := fun t => t.ext fun b u e => by rw [upd_ne (ne_of_none e hp)]; exact e
  mono := fun _ q => .inl q
  back := fun b q => q.imp id fun z => by subst z; exact ⟨hp, by rw [upd_same]; simp⟩
  own := fun b q => q.elim
/-- the things at hand are given up -/
theorem Stt.give (S : Stt K P H ρ σ FE) (h : ∀ b, F b → H b ≠ none ∧ ¬ U FE b) : Stt K (fun b => P b ∨ F b) H ρ σ FE where
  pin := fun b q => q.elim (S.pin b) fun z => (h b z).1
  fin := fun i b q => ⟨(S.fin i b q).1, fun z => z.elim (S.fin i b q).2 fun z => (h b z).2 ⟨i, q⟩⟩
  dj := S.dj
  rel := fun i d e => by
    obtain ⟨v, e1, r⟩ := S.rel i d e
    exact ⟨v, e1, rl_mono r (fun _ q => .inl q) (fun b o e _ _ => e) fun _ q => q⟩
  len := S.len
  tab := S.tab
theorem Tr.give (a : Tr P H U0 P1 H1 (fun b => U1 b ∨ F b)) : Tr P H U0 (fun b => P1 b ∨ F b) H1 U1 where
  frame := a.frame
  mono := fun b q => .inl (a.mono b q)
  back := fun b q => q.elim (a.back b) fun z => (a.sub b (.inr z)).elim (fun w => .inr (.inl w)) fun w => .inr (.inr w)
  sub := fun b q => a.sub b (.inl q)
  alive := a.alive
/-- a slot is written -/
theorem Stt.set (S : Stt K P H ρ σ FE) (t : Tmp K P H FE d v F) (i : Nat) : Stt K P H (ρ.set i (some d)) (σ.set i (some v)) (fun j => if j = i then F else FE j) where
  pin := S.pin
  fin := fun j b q => by
    by_cases e : j = i
    · rw [if_pos e] at q
      exact ⟨(t.own b q).1, (t.own b q).2.1⟩
    · rw [if_neg e] at q
      exact S.fin j b q
  dj := fun j k b q r => by
    by_cases e : j = i <;> by_cases e' : k = i
    · rw [e, e']
    · rw [if_pos e] at q; rw [if_neg e'] at r
      exact ((t.own b q).2.2 ⟨k, r⟩).elim
    · rw [if_neg e] at q; rw [if_pos e'] at r
      exact ((t.own b r).2.2 ⟨j, q⟩).elim
    · rw [if_neg e] at q; rw [if_neg e'] at r
      exact S.dj j k b q r
  rel := fun j d' e => by
    by_cases h : j = i
    · subst h
      have hl : j < ρ.length := by
        have := (List.getElem?_eq_some_iff.mp e).1
        simpa using this
      rw [List.getElem?_set_self hl] at e
      cases e
      refine ⟨v, by rw [List.getElem?_set_self (by rw [← S.len]; exact hl)], ?_⟩
      rw [if_pos rfl]
      exact t.rl
    · rw [List.getElem?_set_ne (Ne.symm h)] at e
      obtain ⟨w, e1, r⟩ := S.rel j d' e
      refine ⟨w, by rw [List.getElem?_set_ne (Ne.symm h)]; exact e1, ?_⟩
      rw [if_neg h]
      exact r
  len := by simpa using S.len
  tab := S.tab
theorem Stt.set_sub (i : Nat) (b : Addr) (q : U (fun j => if j = i then F else FE j) b) : U FE b ∨ F b := by
  obtain ⟨j, q⟩ := q
  by_cases e : j = i
  · rw [if_pos e] at q; exact .inr q
  · rw [if_neg e] at q; exact .inl ⟨j, q⟩
end
end Hap
namespace Hap
open PySem PySem.Spec PyProof.Rows L2
variable [TabC]
abbrev RXR := DX → AS → Hp → Value → Option Addr → Prop
abbrev E_ : AS := fun _ => False
def tE (K : PySem.W.Frag) (RX : RXR) (W : WX) (f : Ev → R D) : TE := fun σ H Q => ∃ P ρ FE, Stt K P H ρ σ FE ∧ match f ρ with
  | .ok d ρ' => ∀ v P' H' FE' F, Stt K P' H' ρ' σ FE' → Tmp K P' H' FE' d v F → Tr P H (U FE) P' H' (fun b => U FE' b ∨ F b) → Q v H'
  | .exc x ρ' => ∀ cls dx P' H' FE', Stt K P' H' ρ' σ FE' → Tr P H (U FE) P' H' (U FE') → RX x P' H' cls dx → W cls dx σ H'
  | .stk => False
def tV (K : PySem.W.Frag) (f : Ev → Option D) : TE := fun σ H Q => ∃ P ρ FE, Stt K P H ρ σ FE ∧ match f ρ with
  | some d => ∀ v P' H', New P H P' H' E_ → Rl false K P' H' d v E_ → Q v H'
  | none => False
def tA (K : PySem.W.Frag) (RX : RXR) (W : WX) (f : Ev → R (List D)) : TA := fun σ H Q => ∃ P ρ FE, Stt K P H ρ σ FE ∧ match f ρ with
  | .ok ds ρ' => ∀ vs P' H' FE' F, Stt K P' H' ρ' σ FE' → Tmps K P' H' FE' ds vs F → Tr P H (U FE) P' H' (fun b => U FE' b ∨ F b) → Q vs H'
  | .exc x ρ' => ∀ cls dx P' H' FE', Stt K P' H' ρ' σ FE' → Tr P H (U FE) P' H' (U FE') → RX x P' H' cls dx → W cls dx σ H'
  | .stk => False
def tAV (K : PySem.W.Frag) (f : Ev → Option (List D)) : TA := fun σ H Q => ∃ P ρ FE, Stt K P H ρ σ FE ∧ match f ρ with
  | some ds => ∀ vs P' H', New P H P' H' E_ → Rls false K P' H' ds vs E_ → Q vs H'
  | none => False
def tT (K : PySem.W.Frag) (RX : RXR) (W : WX) (f : Ev → R Bool) : TT := fun σ H Q => ∃ P ρ FE, Stt K P H ρ σ FE ∧ match f ρ with
  | .ok b ρ' => ∀ P' H' FE', Stt K P' H' ρ' σ FE' → Tr P H (U FE) P' H' (U FE') → Q b H'
  | .exc x ρ' => ∀ cls dx P' H' FE', Stt K P' H' ρ' σ FE' → Tr P H (U FE) P' H' (U FE') → RX x P' H' cls dx → W cls dx σ H'
  | .stk => False
abbrev DE (X : Cx) (RX : RXR) (W : WX) (e : Expr) (f : Ev → R D) : Prop := PE X e (tE X.K RX W f)
abbrev DV (X : Cx) (e : Expr) (f : Ev → Option D) : Prop := PE X e (tV X.K f)
abbrev DA (X : Cx) (RX : RXR) (W : WX) (es : List Expr) (f : Ev → R (List D)) : Prop := PA X es (tA X.K RX W f)
abbrev DAV (X : Cx) (es : List Expr) (f : Ev → Option (List D)) : Prop := PA X es (tAV X.K f)
abbrev DT (X : Cx) (RX : RXR) (W : WX) (e : Expr) (f : Ev → R Bool) : Prop := PT X e (tT X.K RX W f)
omit [TabC] in
theorem pe_imp {X : Cx} {e : Expr} {t t' : TE} (h : PE X e t) (w : ∀ σ H Q, t' σ H Q → t σ H Q) : PE X e t' := ⟨fun pins s σ H Q I q => h.run pins s σ H Q I (w _ _ _ q)⟩
omit [TabC] in
theorem pt_imp {X : Cx} {e : Expr} {t t' : TT} (h : PT X e t) (w : ∀ σ H Q, t' σ H Q → t σ H Q) : PT X e t' := ⟨fun pins s σ H Q I q => h.run pins s σ H Q I (w _ _ _ q)⟩
omit [TabC] in
theorem pw_imp {X : Cx} {e : Expr} {t t' : TT} (h : PW X e t) (w : ∀ σ H Q, t' σ H Q → t σ H Q) : PW X e t' := ⟨fun wh pins s σ H Q I q => h.run wh pins s σ H Q I (w _ _ _ q)⟩
omit [TabC] in
theorem pa_imp {X : Cx} {e : List Expr} {t t' : TA} (h : PA X e t) (w : ∀ σ H Q, t' σ H Q → t σ H Q) : PA X e t' := ⟨fun pos pins s σ H Q I q => h.run pos pins s σ H Q I (w _ _ _ q)⟩
omit [TabC] in
theorem ps_imp {X : Cx} {e : Stmt} {t t' : TS} (h : PS X e t) (w : ∀ D σ H, t' D σ H → t D σ H) : PS X e t' := ⟨fun pins s σ H D I q => h.run pins s σ H D I (w _ _ _ q)⟩
omit [TabC] in
theorem pss_imp {X : Cx} {e : List Stmt} {t t' : TS} (h : PSs X e t) (w : ∀ D σ H, t' D σ H → t D σ H) : PSs X e t' := ⟨fun pins s σ H D I q => h.run pins s σ H D I (w _ _ _ q)⟩
def R.bind {α β : Type} (x : R α) (f : α → Ev → R β) : R β := match x with
  | .ok a ρ => f a ρ
  | .exc x ρ => .exc x ρ
  | .stk => .stk
def R.of {α : Type} (x : Option α) (ρ : Ev) : R α := match x with
  | some a => .ok a ρ
  | none => .stk
def VOp1 (K : PySem.W.Frag) (r : V → Hp → VK → Prop) (g : D → Option D) : Prop := ∀ (P : AS) (H : Hp) (d : D) (v : V) (x : D) (Q : VK), (∀ b, P b → H b ≠ none) → Rl false K P H d v E_ → g d = some x →
  (∀ u P' H' F, New P H P' H' F → Rl true K P' H' x u F → Q u H') → r v H Q
def VOp2 (K : PySem.W.Frag) (r : R2) (g : D → D → Option D) : Prop := ∀ (P : AS) (H : Hp) (d e : D) (v w : V) (x : D) (Q : VK), (∀ b, P b → H b ≠ none) → Rl false K P H d v E_ → Rl false K P H e w E_ → g d e = some x →
  (∀ u P' H' F, New P H P' H' F → Rl true K P' H' x u F → Q u H') → r v w H Q
def VOpN (K : PySem.W.Frag) (r : List V → Hp → VK → Prop) (g : List D → Option D) : Prop := ∀ (P : AS) (H : Hp) (ds : List D) (vs : List V) (x : D) (Q : VK), (∀ b, P b → H b ≠ none) → Rls false K P H ds vs E_ → g ds = some x →
  (∀ u P' H' F, New P H P' H' F → Rl true K P' H' x u F → Q u H') → r vs H Q
def fOp1 (g : D → Option D) (f : Ev → R D) : Ev → R D := fun ρ => (f ρ).bind fun d ρ' => R.of (g d) ρ'
def fOp2 (g : D → D → Option D) (f h : Ev → R D) : Ev → R D := fun ρ => (f ρ).bind fun d ρ1 => (h ρ1).bind fun e ρ2 => R.of (g d e) ρ2
def fOp2V (g : D → D → Option D) (f : Ev → R D) (h : Ev → Option D) : Ev → R D := fun ρ => (f ρ).bind fun d ρ1 => R.of ((h ρ1).bind (g d)) ρ1
def fOpN (g : List D → Option D) (f : Ev → R (List D)) : Ev → R D := fun ρ => (f ρ).bind fun ds ρ' => R.of (g ds) ρ'
def vOp1 (g : D → Option D) (f : Ev → Option D) : Ev → Option D := fun ρ => (f ρ).bind g
def vOp2 (g : D → D → Option D) (f h : Ev → Option D) : Ev → Option D := fun ρ => (f ρ).bind fun d => (h ρ).bind (g d)
def vOpN (g : List D → Option D) (f : Ev → Option (List D)) : Ev → Option D := fun ρ => (f ρ).bind g
section
variable {K : PySem.W.Frag} {RX : RXR} {W : WX} {σ : L2.St} {H : Hp} {Q : VK}
theorem Tr.less' {P P1 : AS} {H H1 : Hp} {U0 U1 F : AS} (a : Tr P H U0 P1 H1 (fun b => U1 b ∨ F b)) : Tr P H U0 P1 H1 U1 := a.less fun _ q => .inl q
theorem e_opN {r : List V → Hp → VK → Prop} {g : List D → Option D} {f : Ev → R (List D)} (hv : VOpN K r g) (h : tE K RX W (fOpN g f) σ H Q) : tA K RX W f σ H (fun v H1 => r v H1 Q) := by
  obtain ⟨P, ρ, FE, S, h⟩ := h
  refine ⟨P, ρ, FE, S, ?_⟩
  unfold fOpN at h
  cases e : f ρ with
  | ok d ρ1 =>
    simp only [e, R.bind] at h
    intro v P1 H1 FE1 F1 S1 T1 t1
    cases e2 : g d with
    | none => simp only [e2, R.of] at h
    | some x =>
      simp only [e2, R.of] at h
      exact hv P1 H1 d v x Q S1.pin (rls_view T1.rl) e2 fun u P2 H2 F2 n r => h u P2 H2 FE1 F2 (n.stt S1) (n.tmp S1 r) (t1.less'.trans n.tr)
  | exc x ρ1 =>
    simp only [e, R.bind] at h
    exact h
  | stk =>
    simp only [e, R.bind] at h
theorem e_op2 {r : R2} {g : D → D → Option D} {f k : Ev → R D} (hv : VOp2 K r g) (h : tE K RX W (fOp2 g f k) σ H Q) : tE K RX W f σ H (fun v H1 => tE K RX W k σ H1 fun w H2 => r v w H2 Q) := by
  obtain ⟨P, ρ, FE, S, h⟩ := h
  refine ⟨P, ρ, FE, S, ?_⟩
  unfold fOp2 at h
  cases e : f ρ with
  | ok d ρ1 =>
    simp only [e, R.bind] at h
    intro v P1 H1 FE1 F1 S1 T1 t1
    refine ⟨P1, ρ1, FE1, S1, ?_⟩
    cases e1 : k ρ1 with
    | ok d' ρ2 =>
      simp only [e1] at h
      intro w P2 H2 FE2 F2 S2 T2 t2
      cases e2 : g d d' with
      | none => simp only [e2, R.of] at h
      | some x =>
        simp only [e2, R.of] at h
        have T1' := (T1.step S1 t2).1
        exact hv P2 H2 d d' v w x Q S2.pin (rl_view T1'.rl) (rl_view T2.rl) e2 fun u P3 H3 F3 n r => h u P3 H3 FE2 F3 (n.stt S2) (n.tmp S2 r) ((t1.less'.trans t2.less').trans n.tr)
    | exc x ρ2 =>
      simp only [e1] at h
      intro cls dx P2 H2 FE2 S2 t2
      exact h cls dx P2 H2 FE2 S2 (t1.less'.trans t2)
    | stk => simp only [e1] at h
  | exc x ρ1 =>
    simp only [e, R.bind] at h
    exact h
  | stk =>
    simp only [e, R.bind] at h
theorem e_op2V {r : R2} {g : D → D → Option D} {f : Ev → R D} {k : Ev → Option D} (hv : VOp2 K r g) (h : tE K RX W (fOp2V g f k) σ H Q) : tE K RX W f σ H (fun v H1 => tV K k σ H1 fun w H2 => r v w H2 Q) := by
  obtain ⟨P, ρ, FE, S, h⟩ := h
  refine ⟨P, ρ, FE, S, ?_⟩
  unfold fOp2V at h
  cases e : f ρ with
  | ok d ρ1 =>
    simp only [e, R.bind] at h
    intro v P1 H1 FE1 F1 S1 T1 t1
    refine ⟨P1, ρ1, FE1, S1, ?_⟩
    cases e1 : k ρ1 with
    | none => simp only [e1, Option.bind, R.of] at h
    | some d' =>
      simp only [e1, Option.bind] at h
      intro w P2 H2 n2 r2
      cases e2 : g d d' with
      | none => simp only [e2, R.of] at h
      | some x =>
        simp only [e2, R.of] at h
        have r1 : Rl false K P2 H2 d v E_ := rl_mono (rl_view T1.rl) n2.mono (fun b o e _ => n2.same b o e) (fun _ q => q)
        exact hv P2 H2 d d' v w x Q (n2.stt S1).pin r1 r2 e2 fun u P3 H3 F3 n r => h u P3 H3 FE1 F3 (n.stt (n2.stt S1)) (n.tmp (n2.stt S1) r) ((t1.less'.trans n2.tr.less').trans n.tr)
  | exc x ρ1 =>
    simp only [e, R.bind] at h
    exact h
  | stk =>
    simp only [e, R.bind] at h
theorem New.less_ {P P' : AS} {H H' : Hp} {F : AS} (n : New P H P' H' F) : New P H P' H' E_ := n.less fun _ q => q.elim
theorem New.trans_ {P P' P'' : AS} {H H' H'' : Hp} (n : New P H P' H' E_) (m : New P' H' P'' H'' E_) : New P H P'' H'' E_ := (n.trans m).less_
theorem v_op1 {r : V → Hp → VK → Prop} {g : D → Option D} {f : Ev → Option D} (hv : VOp1 K r g) (h : tV K (vOp1 g f) σ H Q) : tV K f σ H (fun v H1 => r v H1 Q) := by
  obtain ⟨P, ρ, FE, S, h⟩ := h
  refine ⟨P, ρ, FE, S, ?_⟩
  unfold vOp1 at h
  cases e : f ρ with
  | none => simp only [e, Option.bind] at h
  | some d =>
    simp only [e, Option.bind] at h
    intro v P1 H1 n1 r1
    cases e2 : g d with
    | none => simp only [e2] at h
    | some x =>
      simp only [e2] at h
      exact hv P1 H1 d v x Q (n1.stt S).pin r1 e2 fun u P2 H2 F2 n r => h u P2 H2 (n1.trans_ n.less_) (rl_view r)
theorem v_opN {r : List V → Hp → VK → Prop} {g : List D → Option D} {f : Ev → Option (List D)} (hv : VOpN K r g) (h : tV K (vOpN g f) σ H Q) : tAV K f σ H (fun v H1 => r v H1 Q) := by
  obtain ⟨P, ρ, FE, S, h⟩ := h
  refine ⟨P, ρ, FE, S, ?_⟩
  unfold vOpN at h
  cases e : f ρ with
  | none => simp only [e, Option.bind] at h
  | some d =>
    simp only [e, Option.bind] at h
    intro v P1 H1 n1 r1
    cases e2 : g d with
    | none => simp only [e2] at h
    | some x =>
      simp only [e2] at h
      exact hv P1 H1 d v x Q (n1.stt S).pin r1 e2 fun u P2 H2 F2 n r => h u P2 H2 (n1.trans_ n.less_) (rl_view r)
theorem v_op2 {r : R2} {g : D → D → Option D} {f k : Ev → Option D} (hv : VOp2 K r g) (h : tV K (vOp2 g f k) σ H Q) : tV K f σ H (fun v H1 => tV K k σ H1 fun w H2 => r v w H2 Q) := by
  obtain ⟨P, ρ, FE, S, h⟩ := h
  refine ⟨P, ρ, FE, S, ?_⟩
  unfold vOp2 at h
  cases e : f ρ with
  | none => simp only [e, Option.bind] at h
  | some d =>
    simp only [e, Option.bind] at h
    intro v P1 H1 n1 r1
    refine ⟨P1, ρ, FE, n1.stt S, ?_⟩
    cases e1 : k ρ with
    | none => simp only [e1] at h
    | some d' =>
      simp only [e1] at h
      intro w P2 H2 n2 r2
      cases e2 : g d d' with
      | none => simp only [e2] at h
      | some x =>
        simp only [e2] at h
        have r1' : Rl false K P2 H2 d v E_ := rl_mono r1 n2.mono (fun b o e _ => n2.same b o e) (fun _ q => q)
        exact hv P2 H2 d d' v w x Q (n2.stt (n1.stt S)).pin r1' r2 e2 fun u P3 H3 F3 n r => h u P3 H3 ((n1.trans_ n2).trans_ n.less_) (rl_view r)
end
def fVar (i : Nat) : Ev → R D := fun ρ => match ρ[i]? with
  | some (some d) => .ok (frz d) (ρ.set i (some (frz d)))
  | _ => .stk
def vVar (i : Nat) : Ev → Option D := fun ρ => match ρ[i]? with
  | some (some d) => some d
  | _ => none
/-- what is seen and is no one's own may be taken -/
def fI (f : Ev → Option D) : Ev → R D := fun ρ => match f ρ with
  | some d => if isImm d = true then .ok d ρ else .stk
  | none => .stk
def fNil : Ev → R (List D) := fun ρ => .ok [] ρ
def fCons (f : Ev → R D) (g : Ev → R (List D)) : Ev → R (List D) := fun ρ => (f ρ).bind fun d ρ1 => (g ρ1).bind fun ds ρ2 => .ok (d :: ds) ρ2
def vNil : Ev → Option (List D) := fun _ => some []
def vCons (f : Ev → Option D) (g : Ev → Option (List D)) : Ev → Option (List D) := fun ρ => (f ρ).bind fun d => (g ρ).bind fun ds => some (d :: ds)
section
variable {X : Cx} {RX : RXR} {W : WX}
theorem de_var {i : Nat} {x : Str} {pos : Pos} (h : PE X (.Name x pos) (tVar i)) : DE X RX W (.Name x pos) (fVar i) := by
  refine pe_imp h fun σ H Q q => ?_
  obtain ⟨P, ρ, FE, S, q⟩ := q
  unfold fVar at q
  cases e : ρ[i]? with
  | none => simp only [e] at q
  | some o =>
    cases o with
    | none => simp only [e] at q
    | some d =>
      simp only [e] at q
      obtain ⟨v, ev, r⟩ := S.rel i d e
      refine ⟨v, ev, ?_⟩
      have hF : ∀ b, FE i b → H b ≠ none := fun b z => (S.fin i b z).1
      refine q v (fun b => P b ∨ FE i b) H (fun j b => j ≠ i ∧ FE j b) E_ ⟨fun b z => z.elim (S.pin b) (hF b), fun j b z => ⟨(S.fin j b z.2).1, fun w => w.elim (S.fin j b z.2).2 fun w => z.1 (S.dj j i b z.2 w)⟩, fun j k b z w => S.dj j k b z.2 w.2, fun j d' e' => ?_, by simpa using S.len, S.tab⟩
        ⟨rl_frz r (fun b z => .inl z) fun b z => .inr z, fun b z => z.elim⟩ ⟨fun b o z _ _ => z, fun b z => .inl z, fun b z => z.imp id fun w => .inl ⟨i, w⟩, fun b z => z.elim (fun ⟨j, w⟩ => .inl ⟨j, w.2⟩) False.elim, fun b z => z⟩
      by_cases hj : j = i
      · subst hj
        have hl : j < ρ.length := (List.getElem?_eq_some_iff.mp e).1
        rw [List.getElem?_set_self hl] at e'
        cases e'
        exact ⟨v, ev, rl_frz r (fun b z => .inl z) fun b z => .inr z⟩
      · rw [List.getElem?_set_ne (Ne.symm hj)] at e'
        obtain ⟨w, e1, r1⟩ := S.rel j d' e'
        exact ⟨w, e1, rl_mono r1 (fun b z => .inl z) (fun b o z _ _ => z) fun b z => ⟨hj, z⟩⟩
theorem dv_var {i : Nat} {x : Str} {pos : Pos} (h : PE X (.Name x pos) (tVar i)) : DV X (.Name x pos) (vVar i) := by
  refine pe_imp h fun σ H Q q => ?_
  obtain ⟨P, ρ, FE, S, q⟩ := q
  unfold vVar at q
  cases e : ρ[i]? with
  | none => simp only [e] at q
  | some o =>
    cases o with
    | none => simp only [e] at q
    | some d =>
      simp only [e] at q
      obtain ⟨v, ev, r⟩ := S.rel i d e
      exact ⟨v, ev, q v P H New.refl (rl_view r)⟩
theorem de_ofV {e : Expr} {f : Ev → Option D} (h : DV X e f) : DE X RX W e (fI f) := by
  refine pe_imp h fun σ H Q q => ?_
  obtain ⟨P, ρ, FE, S, q⟩ := q
  unfold fI at q
  refine ⟨P, ρ, FE, S, ?_⟩
  cases e : f ρ with
  | none => simp only [e] at q
  | some d =>
    simp only [e] at q
    intro v P' H' n r
    by_cases i : isImm d = true
    · simp only [if_pos i] at q
      exact q v P' H' FE E_ (n.stt S) ⟨rl_imm r i, fun b z => z.elim⟩ (n.tr)
    · simp only [if_neg i] at q
theorem de_con {e : Expr} {v : V} {d : D} (h : PE X e (tC v)) (r : ∀ P H, Rl true X.K P H d v E_) : DE X RX W e (fun ρ => .ok d ρ) := by
  refine pe_imp h fun σ H Q q => ?_
  obtain ⟨P, ρ, FE, S, q⟩ := q
  exact q v P H FE E_ S ⟨r P H, fun b z => z.elim⟩ (Tr.refl.less fun b z => z.elim id False.elim)
theorem dv_con {e : Expr} {v : V} {d : D} (h : PE X e (tC v)) (r : ∀ P H, Rl true X.K P H d v E_) : DV X e (fun _ => some d) := by
  refine pe_imp h fun σ H Q q => ?_
  obtain ⟨P, ρ, FE, S, q⟩ := q
  exact q v P H New.refl (rl_view (r P H))
theorem da_nil : DA X RX W [] fNil := by
  refine pa_imp pa_nil fun σ H Q q => ?_
  obtain ⟨P, ρ, FE, S, q⟩ := q
  exact q [] P H FE E_ S ⟨.nil, fun b z => z.elim⟩ (Tr.refl.less fun b z => z.elim id False.elim)
theorem dav_nil : DAV X [] vNil := by
  refine pa_imp pa_nil fun σ H Q q => ?_
  obtain ⟨P, ρ, FE, S, q⟩ := q
  exact q [] P H New.refl .nil
theorem da_cons {e : Expr} {es : List Expr} {f : Ev → R D} {g : Ev → R (List D)} (h : DE X RX W e f) (t : DA X RX W es g) (hs : starEach (e :: es) X.env = (false, eval e X.env) :: starEach es X.env := by rfl) : DA X RX W (e :: es) (fCons f g) := by
  refine pa_imp (pa_cons h t hs) fun σ H Q q => ?_
  obtain ⟨P, ρ, FE, S, q⟩ := q
  refine ⟨P, ρ, FE, S, ?_⟩
  unfold fCons at q
  cases e : f ρ with
  | ok d ρ1 =>
    simp only [e, R.bind] at q
    intro v P1 H1 FE1 F1 S1 T1 t1
    refine ⟨P1, ρ1, FE1, S1, ?_⟩
    cases e1 : g ρ1 with
    | ok ds ρ2 =>
      simp only [e1] at q
      intro vs P2 H2 FE2 F2 S2 T2 t2
      obtain ⟨T1', dj⟩ := T1.step S1 t2
      refine q (v :: vs) P2 H2 FE2 (fun b => F1 b ∨ F2 b) S2 ⟨.cons T1'.rl T2.rl (fun b z => .inl z) (fun b z => .inr z) (fun b z w => dj b z w), fun b z => z.elim (T1'.own b) (T2.own b)⟩ ((t1.seq t2).less fun b z => ?_)
      rcases z with z | z | z
      · exact .inl (.inl z)
      · exact .inr z
      · exact .inl (.inr z)
    | exc x ρ2 =>
      simp only [e1] at q
      intro cls dx P2 H2 FE2 S2 t2
      exact q cls dx P2 H2 FE2 S2 (t1.less'.trans t2)
    | stk => simp only [e1] at q
  | exc x ρ1 =>
    simp only [e, R.bind] at q
    exact q
  | stk => simp only [e, R.bind] at q
theorem dav_cons {e : Expr} {es : List Expr} {f : Ev → Option D} {g : Ev → Option (List D)} (h : DV X e f) (t : DAV X es g) (hs : starEach (e :: es) X.env = (false, eval e X.env) :: starEach es X.env := by rfl) : DAV X (e :: es) (vCons f g) := by
  refine pa_imp (pa_cons h t hs) fun σ H Q q => ?_
  obtain ⟨P, ρ, FE, S, q⟩ := q
  refine ⟨P, ρ, FE, S, ?_⟩
  unfold vCons at q
  cases e : f ρ with
  | none => simp only [e, Option.bind] at q
  | some d =>
    simp only [e, Option.bind] at q
    intro v P1 H1 n1 r1
    refine ⟨P1, ρ, FE, n1.stt S, ?_⟩
    cases e1 : g ρ with
    | none => simp only [e1] at q
    | some ds =>
      simp only [e1] at q
      intro vs P2 H2 n2 r2
      exact q (v :: vs) P2 H2 (n1.trans_ n2) (.cons (rl_mono r1 n2.mono (fun b o e _ => n2.same b o e) fun _ q => q) r2 (fun b z => z) (fun b z => z) fun b z => z.elim)
end
end Hap
namespace Hap
open PySem PySem.Spec PyProof.Rows L2
variable [TabC]
def Kp (kp : List Nat) (σ σ' : L2.St) : Prop := σ'.length = σ.length ∧ ∀ i, i ∈ kp → σ'[i]? = σ[i]?
omit [TabC] in
theorem Kp.refl {kp : List Nat} {σ : L2.St} : Kp kp σ σ := ⟨rfl, fun _ _ => rfl⟩
omit [TabC] in
theorem Kp.trans {kp : List Nat} {σ σ1 σ2 : L2.St} (a : Kp kp σ σ1) (b : Kp kp σ1 σ2) : Kp kp σ σ2 := ⟨b.1.trans a.1, fun i h => (b.2 i h).trans (a.2 i h)⟩
omit [TabC] in
theorem Kp.set {kp : List Nat} {σ : L2.St} {i : Nat} {o : Option V} (h : i ∉ kp) : Kp kp σ (σ.set i o) := ⟨List.length_set, fun j hj => by
  rw [List.getElem?_set_ne]
  intro e; subst e; exact h hj⟩
def PoS (K : PySem.W.Frag) (RX : RXR) (W : WX) (kp : List Nat) (D : Ends) (P : AS) (σ : L2.St) (H : Hp) (FE : FP) (r : RS) : Prop := match r with
  | .nx ρ' => ∀ σ' P' H' FE', Stt K P' H' ρ' σ' FE' → Tr P H (U FE) P' H' (U FE') → Kp kp σ σ' → D.nx σ' H'
  | .bk ρ' => ∀ σ' P' H' FE', Stt K P' H' ρ' σ' FE' → Tr P H (U FE) P' H' (U FE') → Kp kp σ σ' → D.bk σ' H'
  | .ct ρ' => ∀ σ' P' H' FE', Stt K P' H' ρ' σ' FE' → Tr P H (U FE) P' H' (U FE') → Kp kp σ σ' → D.ct σ' H'
  | .rt d ρ' => ∀ v σ' P' H' FE' F, Stt K P' H' ρ' σ' FE' → Tmp K P' H' FE' d v F → Tr P H (U FE) P' H' (fun b => U FE' b ∨ F b) → Kp kp σ σ' → D.rt v H'
  | .exc x ρ' => ∀ cls dx σ' P' H' FE', Stt K P' H' ρ' σ' FE' → Tr P H (U FE) P' H' (U FE') → Kp kp σ σ' → RX x P' H' cls dx → W cls dx σ' H'
  | .stk => False
def tS (K : PySem.W.Frag) (RX : RXR) (W : WX) (kp : List Nat) (g : Ev → RS) : TS := fun D σ H => ∃ P ρ FE, Stt K P H ρ σ FE ∧ PoS K RX W kp D P σ H FE (g ρ)
abbrev DS (X : Cx) (RX : RXR) (W : WX) (kp : List Nat) (s : Stmt) (g : Ev → RS) : Prop := PS X s (tS X.K RX W kp g)
abbrev DSs (X : Cx) (RX : RXR) (W : WX) (kp : List Nat) (s : List Stmt) (g : Ev → RS) : Prop := PSs X s (tS X.K RX W kp g)
def fNext : Ev → RS := .nx
def fSeq (g k : Ev → RS) : Ev → RS := fun ρ => match g ρ with
  | .nx ρ' => k ρ'
  | .rt d ρ' => .rt d ρ'
  | .bk ρ' => .bk ρ'
  | .ct ρ' => .ct ρ'
  | .exc x ρ' => .exc x ρ'
  | .stk => .stk
def RS.of {α : Type} (r : R α) (k : α → Ev → RS) : RS := match r with
  | .ok a ρ => k a ρ
  | .exc x ρ => .exc x ρ
  | .stk => .stk
def fRet (f : Ev → R D) : Ev → RS := fun ρ => RS.of (f ρ) .rt
def fDrop (f : Ev → R D) : Ev → RS := fun ρ => RS.of (f ρ) fun _ ρ' => .nx ρ'
def fIf (c : Ev → R Bool) (g k : Ev → RS) : Ev → RS := fun ρ => RS.of (c ρ) fun b ρ' => if b = true then g ρ' else k ρ'
def fStk : Ev → RS := fun _ => .stk
/-- an assignment: the value, the target -/
def fAsg (f : Ev → R D) (t : D → Ev → Option Ev) : Ev → RS := fun ρ => RS.of (f ρ) fun d ρ' => match t d ρ' with
  | some ρ2 => .nx ρ2
  | none => .stk
section
variable {K : PySem.W.Frag} {RX : RXR} {W : WX} {kp : List Nat} {D : Ends} {P P1 : AS} {σ σ1 : L2.St} {H H1 : Hp} {FE FE1 : FP}
/-- from a later state -/
theorem PoS.later {r : RS} (h : PoS K RX W kp D P σ H FE r) (t : Tr P H (U FE) P1 H1 (U FE1)) (k : Kp kp σ σ1) : PoS K RX W kp D P1 σ1 H1 FE1 r := by
  cases r with
  | nx ρ => exact fun σ' P' H' FE' S u kk => h σ' P' H' FE' S (t.trans u) (k.trans kk)
  | bk ρ => exact fun σ' P' H' FE' S u kk => h σ' P' H' FE' S (t.trans u) (k.trans kk)
  | ct ρ => exact fun σ' P' H' FE' S u kk => h σ' P' H' FE' S (t.trans u) (k.trans kk)
  | rt d ρ => exact fun v σ' P' H' FE' F S T u kk => h v σ' P' H' FE' F S T (t.trans u) (k.trans kk)
  | exc x ρ => exact fun cls dx σ' P' H' FE' S u kk => h cls dx σ' P' H' FE' S (t.trans u) (k.trans kk)
  | stk => exact h
end
section
variable {X : Cx} {RX : RXR} {W : WX} {kp : List Nat}
theorem dss_nil : DSs X RX W kp [] fNext := pss_imp pss_nil fun D σ H ⟨P, ρ, FE, S, q⟩ => q σ P H FE S Tr.refl Kp.refl
theorem dss_cons {s : Stmt} {ss : List Stmt} {g k : Ev → RS} (h : DS X RX W kp s g) (t : DSs X RX W kp ss k) : DSs X RX W kp (s :: ss) (fSeq g k) := by
  refine pss_imp (pss_cons h t) fun D σ H q => ?_
  obtain ⟨P, ρ, FE, S, q⟩ := q
  refine ⟨P, ρ, FE, S, ?_⟩
  unfold fSeq at q
  cases e : g ρ with
  | nx ρ1 =>
    simp only [e] at q
    exact fun σ1 P1 H1 FE1 S1 t1 k1 => ⟨P1, ρ1, FE1, S1, q.later t1 k1⟩
  | rt d ρ1 => simp only [e] at q; exact q
  | bk ρ1 => simp only [e] at q; exact q
  | ct ρ1 => simp only [e] at q; exact q
  | exc x ρ1 => simp only [e] at q; exact q
  | stk => simp only [e] at q; exact q
theorem dss_one {s : Stmt} {g : Ev → RS} (h : DS X RX W kp s g) : DSs X RX W kp [s] g := pss_one h
theorem ds_stk {s : Stmt} : DS X RX W kp s fStk := ps_imp ps_never fun D σ H ⟨P, ρ, FE, S, q⟩ => q
theorem ds_ret {e : Expr} {f : Ev → R D} {pos : Pos} (h : DE X RX W e f) : DS X RX W kp (.Return (some e) pos) (fRet f) := by
  refine ps_imp (ps_ret h) fun D σ H q => ?_
  obtain ⟨P, ρ, FE, S, q⟩ := q
  refine ⟨P, ρ, FE, S, ?_⟩
  unfold fRet at q
  cases e : f ρ with
  | ok d ρ1 => simp only [e, RS.of] at q; exact fun v P' H' FE' F S' T t => q v σ P' H' FE' F S' T t Kp.refl
  | exc x ρ1 => simp only [e, RS.of] at q; exact fun cls dx P' H' FE' S' t r => q cls dx σ P' H' FE' S' t Kp.refl r
  | stk => simp only [e, RS.of] at q; exact q
theorem ds_drop {f : Ev → R D} {s : Stmt} (h : PS X s (tDrop (tE X.K RX W f))) : DS X RX W kp s (fDrop f) := by
  refine ps_imp h fun D σ H q => ?_
  obtain ⟨P, ρ, FE, S, q⟩ := q
  refine ⟨P, ρ, FE, S, ?_⟩
  unfold fDrop at q
  cases e : f ρ with
  | ok d ρ1 => simp only [e, RS.of] at q; exact fun v P' H' FE' F S' T t => q σ P' H' FE' S' t.less' Kp.refl
  | exc x ρ1 => simp only [e, RS.of] at q; exact fun cls dx P' H' FE' S' t r => q cls dx σ P' H' FE' S' t Kp.refl r
  | stk => simp only [e, RS.of] at q; exact q
theorem ds_if {c : Expr} {a b : List Stmt} {f : Ev → R Bool} {g k : Ev → RS} {pos : Pos} (hc : DT X RX W c f) (ha : DSs X RX W kp a g) (hb : DSs X RX W kp b k) : DS X RX W kp (.If c a b pos) (fIf f g k) := by
  refine ps_imp (ps_if hc ha hb) fun D σ H q => ?_
  obtain ⟨P, ρ, FE, S, q⟩ := q
  refine ⟨P, ρ, FE, S, ?_⟩
  unfold fIf at q
  cases e : f ρ with
  | ok d ρ1 =>
    simp only [e, RS.of] at q
    intro P1 H1 FE1 S1 t1
    cases d with
    | true => exact ⟨P1, ρ1, FE1, S1, PoS.later q t1 Kp.refl⟩
    | false => exact ⟨P1, ρ1, FE1, S1, PoS.later q t1 Kp.refl⟩
  | exc x ρ1 => simp only [e, RS.of] at q; exact fun cls dx P' H' FE' S' t r => q cls dx σ P' H' FE' S' t Kp.refl r
  | stk => simp only [e, RS.of] at q; exact q
def tG (K : PySem.W.Frag) (kp : List Nat) (t : D → Ev → Option Ev) : TG := fun v σ H Q => ∃ P ρ FE d F, Stt K P H ρ σ FE ∧ Tmp K P H FE d v F ∧ match t d ρ with
  | some ρ' => ∀ σ' P' H' FE', Stt K P' H' ρ' σ' FE' → Tr P H (fun b => U FE b ∨ F b) P' H' (U FE') → Kp kp σ σ' → Q σ' H'
  | none => False
def tGs (K : PySem.W.Frag) (kp : List Nat) (t : List D → Ev → Option Ev) : TGs := fun vs σ H Q => ∃ P ρ FE ds F, Stt K P H ρ σ FE ∧ Tmps K P H FE ds vs F ∧ match t ds ρ with
  | some ρ' => ∀ σ' P' H' FE', Stt K P' H' ρ' σ' FE' → Tr P H (fun b => U FE b ∨ F b) P' H' (U FE') → Kp kp σ σ' → Q σ' H'
  | none => False
abbrev DG (X : Cx) (kp : List Nat) (e : Expr) (t : D → Ev → Option Ev) : Prop := PG X e (tG X.K kp t)
abbrev DGs (X : Cx) (kp : List Nat) (es : List Expr) (t : List D → Ev → Option Ev) : Prop := PGs X es (tGs X.K kp t)
omit [TabC] in
theorem pg_imp {e : Expr} {t t' : TG} (h : PG X e t) (w : ∀ v σ H Q, t' v σ H Q → t v σ H Q) : PG X e t' := ⟨fun pins s σ H v u Q I r q => h.run pins s σ H v u Q I r (w _ _ _ _ q)⟩
omit [TabC] in
theorem pgs_imp {e : List Expr} {t t' : TGs} (h : PGs X e t) (w : ∀ v σ H Q, t' v σ H Q → t v σ H Q) : PGs X e t' := ⟨fun pins s σ H v u Q I r q => h.run pins s σ H v u Q I r (w _ _ _ _ q)⟩
def gN (i : Nat) : D → Ev → Option Ev := fun d ρ => some (ρ.set i (some d))
def gsN : List D → Ev → Option Ev := fun ds ρ => match ds with
  | [] => some ρ
  | _ :: _ => none
def gsC (t : D → Ev → Option Ev) (u : List D → Ev → Option Ev) : List D → Ev → Option Ev := fun ds ρ => match ds with
  | [] => none
  | d :: ds => match t d ρ with
    | some ρ' => u ds ρ'
    | none => none
def gT (n : Nat) (u : List D → Ev → Option Ev) : D → Ev → Option Ev := fun d ρ => match d with
  | .tup ds => if ds.length = n then u ds ρ else none
  | _ => none
theorem dg_name {i : Nat} {e : Expr} (h : PG X e (gName i)) (hk : i ∉ kp) : DG X kp e (gN i) := by
  refine pg_imp h fun v σ H Q q => ?_
  obtain ⟨P, ρ, FE, d, F, S, T, q⟩ := q
  exact q (σ.set i (some v)) P H _ (S.set T i) (Tr.refl.less fun b z => Stt.set_sub i b z) (Kp.set hk)
theorem dgs_nil : DGs X kp [] gsN := by
  refine pgs_imp pgs_nil fun vs σ H Q q => ?_
  obtain ⟨P, ρ, FE, ds, F, S, T, q⟩ := q
  cases ds with
  | nil =>
    cases T.rl
    exact ⟨rfl, q σ P H FE S (Tr.refl.less fun b z => .inl z) Kp.refl⟩
  | cons d ds => exact q.elim
theorem dgs_cons {e : Expr} {es : List Expr} {t : D → Ev → Option Ev} {u : List D → Ev → Option Ev} (h : DG X kp e t) (k : DGs X kp es u) (hs : (assignEach (e :: es) X.env).map (·.2) = assign e X.env :: (assignEach es X.env).map (·.2) := by rfl) : DGs X kp (e :: es) (gsC t u) := by
  refine pgs_imp (pgs_cons h k hs) fun vs σ H Q q => ?_
  obtain ⟨P, ρ, FE, ds, F, S, T, q⟩ := q
  cases ds with
  | nil => exact q.elim
  | cons d ds =>
    obtain ⟨rl, own⟩ := T
    cases rl with
    | @cons _ v _ vs _ F1 F2 r rs s1 s2 dj =>
      refine ⟨v, vs, rfl, ?_⟩
      have T1 : Tmp X.K P H FE d v F1 := ⟨r, fun b z => own b (s1 b z)⟩
      have T2 : Tmps X.K P H FE ds vs F2 := ⟨rs, fun b z => own b (s2 b z)⟩
      refine ⟨P, ρ, FE, d, F1, S, T1, ?_⟩
      simp only [gsC] at q
      cases e1 : t d ρ with
      | none => simp only [e1] at q
      | some ρ1 =>
        simp only [e1] at q
        intro σ1 P1 H1 FE1 S1 t1 k1
        have T2' : Tmps X.K P1 H1 FE1 ds vs F2 := by
          refine ⟨rls_mono rs t1.mono (fun b o e z => t1.frame b o e fun w => ?_) fun _ z => z, fun b z => ?_⟩
          · rcases z rfl with z | z
            · exact w.elim (fun ⟨i, w⟩ => (S.fin i b w).2 z) fun w => (T1.own b w).2.1 z
            · exact w.elim (T2.own b z).2.2 fun w => dj b w z
          · obtain ⟨h1, h2, h3⟩ := T2.own b z
            exact ⟨t1.alive b h1, fun w => (t1.back b w).elim h2 (fun w => w.elim (fun w => w.elim h3 fun w => dj b w z) h1), fun w => (t1.sub b w).elim (fun w => w.elim h3 fun w => dj b w z) h1⟩
        refine ⟨P1, ρ1, FE1, ds, F2, S1, T2', ?_⟩
        cases e2 : u ds ρ1 with
        | none => simp only [e2] at q
        | some ρ2 =>
          simp only [e2] at q
          intro σ2 P2 H2 FE2 S2 t2 k2
          refine q σ2 P2 H2 FE2 S2 ⟨fun b o e n nt => t2.frame b o (t1.frame b o e (fun w => n (w.imp id (s1 b))) nt) (fun w => ?_) nt, fun b z => t2.mono b (t1.mono b z), fun b z => ?_, fun b z => ?_, fun b z => t2.alive b (t1.alive b z)⟩ (k1.trans k2)
          · rcases w with w | w
            · rcases t1.sub b w with w | w
              · exact n (w.imp id (s1 b))
              · rw [e] at w; cases w
            · exact n (.inr (s2 b w))
          · rcases t2.back b z with z | z | z
            · exact (t1.back b z).imp id fun w => w.imp (fun w => w.imp id (s1 b)) id
            · rcases z with z | z
              · exact .inr ((t1.sub b z).imp (fun w => w.imp id (s1 b)) id)
              · exact .inr (.inl (.inr (s2 b z)))
            · refine .inr (.inr ?_)
              cases e : H b with
              | none => rfl
              | some o => exact absurd z (t1.alive b (by rw [e]; simp))
          · rcases t2.sub b z with z | z
            · rcases z with z | z
              · exact (t1.sub b z).imp (fun w => w.imp id (s1 b)) id
              · exact .inl (.inr (s2 b z))
            · refine .inr ?_
              cases e : H b with
              | none => rfl
              | some o => exact absurd z (t1.alive b (by rw [e]; simp))
theorem dg_tup {es : List Expr} {n k : Nat} {pos : Pos} {u : List D → Ev → Option Ev} (hc : X.calm = true) (h : DGs X kp es u) (hn : (assignEach es X.env).length = n := by rfl) (hst : (assignEach es X.env).findIdx? (·.1) = none := by rfl) :
    DG X kp (.Tuple es k pos) (gT n u) := by
  refine pg_imp (pg_tup hc h hn hst) fun v σ H Q q => ?_
  obtain ⟨P, ρ, FE, d, F, S, T, q⟩ := q
  cases d with
  | tup ds =>
    obtain ⟨rl, own⟩ := T
    cases rl with
    | tup e p rs =>
      simp only [gT] at q
      by_cases hl : ds.length = n
      · simp only [if_pos hl] at q
        exact ⟨_, _, rfl, .inl (.inl e), by rw [← rls_len rs]; exact hl, P, ρ, FE, ds, F, S, ⟨rs, own⟩, q⟩
      · simp only [if_neg hl] at q
  | _ => exact q.elim
/-- target = value -/
theorem ds_asg {s : Stmt} {f : Ev → R D} {t : D → Ev → Option Ev} (h : PS X s (tAsg (tE X.K RX W f) (tG X.K kp t))) : DS X RX W kp s (fAsg f t) := by
  refine ps_imp h fun D σ H q => ?_
  obtain ⟨P, ρ, FE, S, q⟩ := q
  refine ⟨P, ρ, FE, S, ?_⟩
  unfold fAsg at q
  cases e : f ρ with
  | ok d ρ1 =>
    simp only [e, RS.of] at q
    intro v P1 H1 FE1 F1 S1 T1 t1
    refine ⟨P1, ρ1, FE1, d, F1, S1, T1, ?_⟩
    cases e1 : t d ρ1 with
    | none => simp only [e1] at q; exact q
    | some ρ2 =>
      simp only [e1] at q
      exact fun σ2 P2 H2 FE2 S2 t2 k2 => q σ2 P2 H2 FE2 S2 (t1.trans t2) k2
  | exc x ρ1 => simp only [e, RS.of] at q; exact fun cls dx P' H' FE' S' t r => q cls dx σ P' H' FE' S' t Kp.refl r
  | stk => simp only [e, RS.of] at q; exact q
/-- name = value, from the layer's own rules (ps_set, ps_setLc) -/
theorem ds_set {s : Stmt} {i : Nat} {f : Ev → R D} (h : PS X s (tAsg (tE X.K RX W f) (gName i))) (hk : i ∉ kp) : DS X RX W kp s (fAsg f (gN i)) := by
  refine ps_imp h fun D σ H q => ?_
  obtain ⟨P, ρ, FE, S, q⟩ := q
  refine ⟨P, ρ, FE, S, ?_⟩
  unfold fAsg at q
  cases e : f ρ with
  | ok d ρ1 =>
    simp only [e, RS.of, gN] at q
    intro v P1 H1 FE1 F1 S1 T1 t1
    exact q (σ.set i (some v)) P1 H1 _ (S1.set T1 i) (t1.less fun b z => Stt.set_sub i b z) (Kp.set hk)
  | exc x ρ1 => simp only [e, RS.of] at q; exact fun cls dx P' H' FE' S' t r => q cls dx σ P' H' FE' S' t Kp.refl r
  | stk => simp only [e, RS.of] at q; exact q
end
end Hap
namespace Hap
open PySem PySem.Spec PyProof.Rows L2
variable [TabC]
/-- from any later state the walk J yields the data ds, one by one -/
structure Walks (K : PySem.W.Frag) (J : It) (P0 : AS) (H0 : Hp) (ds : List D) : Prop where
  go : ∀ (P : AS) (H : Hp) (i : Nat) (d : D), (∀ b, P b → H b ≠ none) → (∀ b, P0 b → P b) → (∀ b o, P0 b → H0 b = some o → NT o → H b = some o) → ds[i]? = some d →
    J.go i H ∧ ∀ x H3, J.yld i H x H3 → ∃ P3, New P H P3 H3 E_ ∧ Rl true K P3 H3 d x E_
  stop : ∀ (H : Hp), (∀ b o, P0 b → H0 b = some o → NT o → H b = some o) → J.stop ds.length H
def tI (K : PySem.W.Frag) (RX : RXR) (W : WX) (f : Ev → R (List D)) : TI := fun σ H Q => ∃ P ρ FE, Stt K P H ρ σ FE ∧ match f ρ with
  | .ok ds ρ' => ∀ J P' H' FE', Stt K P' H' ρ' σ FE' → Tr P H (U FE) P' H' (U FE') → Walks K J P' H' ds → Q J H'
  | .exc x ρ' => ∀ cls dx P' H' FE', Stt K P' H' ρ' σ FE' → Tr P H (U FE) P' H' (U FE') → RX x P' H' cls dx → W cls dx σ H'
  | .stk => False
abbrev DI (X : Cx) (RX : RXR) (W : WX) (tg e : Expr) (f : Ev → R (List D)) : Prop := PI X tg e (tI X.K RX W f)
omit [TabC] in
theorem pi_imp {X : Cx} {tg e : Expr} {t t' : TI} (h : PI X tg e t) (w : ∀ σ H Q, t' σ H Q → t σ H Q) : PI X tg e t' := ⟨fun pins s σ H Q I q => h.run pins s σ H Q I (w _ _ _ q)⟩
/-- the items of a list, a tuple -/
def itemsL (d : D) : Option (List D) := match d with
  | .lst _ ds => some (frzs ds)
  | .rol ds => some ds
  | _ => none
def itemsT (d : D) : Option (List D) := match d with
  | .tup ds => some (frzs ds)
  | _ => none
def enumD : Nat → List D → List D
  | _, [] => []
  | i, d :: ds => .tup [.int (i : Int), d] :: enumD (i + 1) ds
def rangeD (lo : Int) : Nat → List D
  | 0 => []
  | n + 1 => .int lo :: rangeD (lo + 1) n
def zipD : List D → List D → List D
  | x :: xs, y :: ys => .tup [x, y] :: zipD xs ys
  | _, _ => []
def fIt (g : D → Option (List D)) (f : Ev → R D) : Ev → R (List D) := fun ρ => (f ρ).bind fun d ρ' => R.of (g d) ρ'
def fItN (g : List D → Option (List D)) (f : Ev → R (List D)) : Ev → R (List D) := fun ρ => (f ρ).bind fun d ρ' => R.of (g d) ρ'
omit [TabC] in
theorem enumD_get : ∀ {k i : Nat} {ds : List D} {d : D}, (enumD k ds)[i]? = some d → ∃ e, ds[i]? = some e ∧ d = .tup [.int ((k + i : Nat) : Int), e]
  | k, 0, e :: ds, d, h => by
    simp only [enumD, List.getElem?_cons_zero] at h
    cases h
    exact ⟨e, rfl, by simp⟩
  | k, i + 1, e :: ds, d, h => by
    simp only [enumD, List.getElem?_cons_succ] at h
    obtain ⟨e', h1, h2⟩ := enumD_get h
    refine ⟨e', by simpa using h1, ?_⟩
    rw [h2]
    congr 3
    omega
  | _, _, [], _, h => by simp [enumD] at h
omit [TabC] in
theorem enumD_len : ∀ (k : Nat) (ds : List D), (enumD k ds).length = ds.length
  | _, [] => rfl
  | k, _ :: ds => congrArg (· + 1) (enumD_len (k + 1) ds)
omit [TabC] in
theorem rangeD_get : ∀ {lo : Int} {n i : Nat} {d : D}, (rangeD lo n)[i]? = some d → i < n ∧ d = .int (lo + (i : Int))
  | lo, 0, i, d, h => by simp [rangeD] at h
  | lo, n + 1, 0, d, h => by
    simp only [rangeD, List.getElem?_cons_zero] at h
    cases h
    exact ⟨Nat.succ_pos _, by simp⟩
  | lo, n + 1, i + 1, d, h => by
    simp only [rangeD, List.getElem?_cons_succ] at h
    obtain ⟨h1, h2⟩ := rangeD_get h
    refine ⟨by omega, ?_⟩
    rw [h2]
    congr 1
    omega
omit [TabC] in
theorem rangeD_len : ∀ (lo : Int) (n : Nat), (rangeD lo n).length = n
  | _, 0 => rfl
  | lo, n + 1 => congrArg (· + 1) (rangeD_len (lo + 1) n)
omit [TabC] in
theorem zipD_get : ∀ {xs ys : List D} {i : Nat} {d : D}, (zipD xs ys)[i]? = some d → ∃ x y, xs[i]? = some x ∧ ys[i]? = some y ∧ d = .tup [x, y]
  | x :: xs, y :: ys, 0, d, h => by
    simp only [zipD, List.getElem?_cons_zero] at h
    cases h
    exact ⟨x, y, rfl, rfl, rfl⟩
  | x :: xs, y :: ys, i + 1, d, h => by
    simp only [zipD, List.getElem?_cons_succ] at h
    obtain ⟨a, b, h1, h2, h3⟩ := zipD_get h
    exact ⟨a, b, by simpa using h1, by simpa using h2, h3⟩
  | [], _, _, _, h => by simp [zipD] at h
  | _ :: _, [], _, _, h => by simp [zipD] at h
omit [TabC] in
theorem zipD_len : ∀ (xs ys : List D), (zipD xs ys).length = min xs.length ys.length
  | [], ys => by simp [zipD]
  | _ :: _, [] => by simp [zipD]
  | _ :: xs, _ :: ys => by simp [zipD, zipD_len xs ys, Nat.succ_min_succ]
theorem New.pair {K : PySem.W.Frag} {P : AS} {H : Hp} {T : Addr} {x y : V} {d e : D} (hT : H T = none) (r1 : Rl true K P H d x E_) (r2 : Rl true K P H e y E_) :
    ∃ P3, New P H P3 (upd H T (.tup [x, y])) E_ ∧ Rl true K P3 (upd H T (.tup [x, y])) (.tup [d, e]) (.ref T) E_ := by
  refine ⟨fun b => P b ∨ b = T, New.tup hT, .tup upd_same (.inr rfl) ?_⟩
  have m : ∀ {d : D} {x : V}, Rl true K P H d x E_ → Rl true K (fun b => P b ∨ b = T) (upd H T (.tup [x, y])) d x E_ := fun r => rl_mono r (fun b z => .inl z) (fun b o e _ _ => by rw [upd_ne (ne_of_none e hT)]; exact e) fun _ z => z
  have m' : ∀ {d : D} {z : V}, Rl true K P H d z E_ → Rl true K (fun b => P b ∨ b = T) (upd H T (.tup [x, y])) d z E_ := fun r => rl_mono r (fun b z => .inl z) (fun b o e _ _ => by rw [upd_ne (ne_of_none e hT)]; exact e) fun _ z => z
  exact .cons (F1 := E_) (F2 := E_) (m' r1) (.cons (F1 := E_) (F2 := E_) (m' r2) .nil (fun _ z => z) (fun _ z => z) fun _ z => z.elim) (fun _ z => z) (fun _ z => z) fun _ z => z.elim
section
variable {K : PySem.W.Frag} {P0 : AS} {H0 : Hp} {ds : List D}
omit [TabC] in
theorem rol_sql {K : PySem.W.Frag} {P : AS} {H : Hp} {p : Addr} {vs : List V} (h : Rol K H P p vs) : SqL K H p vs := by
  rcases h with ⟨_, e | ⟨o, e⟩⟩ | h
  · exact .inl (.inl e)
  · exact .inl (.inr ⟨o, e⟩)
  · exact .inr h
/-- a list given up (or one that is only read) -/
def ImL (K : PySem.W.Frag) (P : AS) (H : Hp) (p : Addr) (ds : List D) : Prop := ∃ vs, ((H p = some (.lst vs) ∧ P p) ∨ Rol K H P p vs) ∧ Rls true K P H ds vs E_
theorem ImL.mono {P P' : AS} {H H' : Hp} {p : Addr} (h : ImL K P H p ds) (hP : ∀ b, P b → P' b) (hH : ∀ b o, P b → H b = some o → NT o → H' b = some o) : ∃ vs, (SqL K H' p vs) ∧ Rls true K P' H' ds vs E_ := by
  obtain ⟨vs, h, r⟩ := h
  refine ⟨vs, ?_, rls_mono r hP (fun b o e q => hH b o ((q rfl).elim id False.elim) e) fun _ z => z⟩
  rcases h with ⟨e, p⟩ | h
  · exact .inl (.inl (hH _ _ p e nt_lst))
  · exact rol_sql (Rol.mono (z := true) (F := E_) h hP fun b o e q => hH b o ((q rfl).elim id False.elim) e)
theorem walks_list {p : Addr} (h : ImL K P0 H0 p ds) : Walks K (Itl K p) P0 H0 ds where
  go := fun P H i d _ hP hH hd => by
    obtain ⟨vs, s, r⟩ := h.mono hP hH
    obtain ⟨v, e, r1⟩ := rls_get r hd
    exact ⟨⟨vs, v, s, e⟩, fun x H3 y => by
      obtain ⟨e1, y⟩ := y
      subst e1
      have := y vs s
      rw [e] at this; cases this
      exact ⟨P, New.refl, r1⟩⟩
  stop := fun H hH => by
    obtain ⟨vs, s, r⟩ := h.mono (P' := P0) (fun _ q => q) hH
    exact ⟨vs, s, Nat.le_of_eq (rls_len r).symm⟩
theorem walks_enum {p : Addr} (h : ImL K P0 H0 p ds) : Walks K (Ite K p) P0 H0 (enumD 0 ds) where
  go := fun P H i d _ hP hH hd => by
    obtain ⟨vs, s, r⟩ := h.mono hP hH
    obtain ⟨e, h1, h2⟩ := enumD_get hd
    obtain ⟨v, e1, r1⟩ := rls_get r h1
    refine ⟨⟨vs, v, s, e1⟩, fun x H3 y => ?_⟩
    obtain ⟨T, x1, rfl, hT, rfl, y⟩ := y
    have := y vs s
    rw [e1] at this; cases this
    rw [h2, Nat.zero_add]
    exact New.pair hT .int r1
  stop := fun H hH => by
    obtain ⟨vs, s, r⟩ := h.mono (P' := P0) (fun _ q => q) hH
    exact ⟨vs, s, by rw [enumD_len, rls_len r]; exact Nat.le_refl _⟩
theorem walks_zip {p q : Addr} {es : List D} (h : ImL K P0 H0 p ds) (k : ImL K P0 H0 q es) : Walks K (Itz K p q) P0 H0 (zipD ds es) where
  go := fun P H i d _ hP hH hd => by
    obtain ⟨vs, s, r⟩ := h.mono hP hH
    obtain ⟨ws, s', r'⟩ := k.mono hP hH
    obtain ⟨a, b, h1, h2, h3⟩ := zipD_get hd
    obtain ⟨v, e1, r1⟩ := rls_get r h1
    obtain ⟨w, e2, r2⟩ := rls_get r' h2
    refine ⟨⟨vs, ws, v, w, s, s', e1, e2⟩, fun x H3 y => ?_⟩
    obtain ⟨T, x1, x2, rfl, hT, rfl, y1, y2⟩ := y
    have z1 := y1 vs s
    have z2 := y2 ws s'
    rw [e1] at z1; cases z1
    rw [e2] at z2; cases z2
    rw [h3]
    exact New.pair hT r1 r2
  stop := fun H hH => by
    obtain ⟨vs, s, r⟩ := h.mono (P' := P0) (fun _ q => q) hH
    obtain ⟨ws, s', r'⟩ := k.mono (P' := P0) (fun _ q => q) hH
    refine ⟨vs, ws, s, s', ?_⟩
    rw [zipD_len, ← rls_len r, ← rls_len r']
    omega
theorem walks_tup {p : Addr} (h : ∃ vs, H0 p = some (.tup vs) ∧ P0 p ∧ Rls true K P0 H0 ds vs E_) : Walks K (Itt K p) P0 H0 ds where
  go := fun P H i d _ hP hH hd => by
    obtain ⟨vs, e, p, r⟩ := h
    obtain ⟨v, e1, r1⟩ := rls_get (rls_mono r hP (fun b o e q => hH b o ((q rfl).elim id False.elim) e) fun _ z => z) hd
    have s : SqT K H _ vs := .inl (.inl (hH _ _ p e nt_tup))
    exact ⟨⟨vs, v, s, e1⟩, fun x H3 y => by
      obtain ⟨e2, y⟩ := y
      subst e2
      have := y vs s
      rw [e1] at this; cases this
      exact ⟨P, New.refl, r1⟩⟩
  stop := fun H hH => by
    obtain ⟨vs, e, p, r⟩ := h
    exact ⟨vs, .inl (.inl (hH _ _ p e nt_tup)), Nat.le_of_eq (rls_len r).symm⟩
theorem walks_range {lo : Int} {n : Nat} : Walks K (Itr lo n) P0 H0 (rangeD lo n) where
  go := fun P H i d _ hP hH hd => by
    obtain ⟨h1, h2⟩ := rangeD_get hd
    refine ⟨h1, fun x H3 y => ?_⟩
    obtain ⟨rfl, rfl⟩ := y
    exact ⟨P, New.refl, h2 ▸ .int⟩
  stop := fun H hH => by show n ≤ _; rw [rangeD_len]; exact Nat.le_refl _
end
section
variable {X : Cx} {RX : RXR} {W : WX} {tg e : Expr}
/-- a datum whose items are taken: all of it is given up -/
theorem itemsL_im {K : PySem.W.Frag} {P : AS} {H : Hp} {FE : FP} {d : D} {v : V} {F : AS} {ds : List D} (T : Tmp K P H FE d v F) (h : itemsL d = some ds) : ∃ p, v = .ref p ∧ (∃ vs, SqL K H p vs) ∧ ImL K (fun b => P b ∨ F b) H p ds := by
  obtain ⟨r, _⟩ := T
  cases r with
  | lstO e f s rs =>
    cases h
    exact ⟨_, rfl, ⟨_, .inl (.inl e)⟩, _, .inl ⟨e, .inr (f rfl)⟩, rls_frz rs (fun b z => .inl z) fun b z => .inr (s b z).1⟩
  | lstI e p i rs =>
    cases h
    exact ⟨_, rfl, ⟨_, .inl (.inl e)⟩, _, .inl ⟨e, .inl p⟩, rls_frz rs (fun b z => .inl z) fun b z => z.elim⟩
  | rol e i rs =>
    cases h
    exact ⟨_, rfl, ⟨_, rol_sql e⟩, _, .inr (Rol.mono (z := true) (F := E_) e (fun b z => .inl z) fun b o e _ _ => e), rls_mono rs (fun b z => .inl z) (fun b o e _ _ => e) fun _ z => z⟩
  | _ => cases h
theorem di_list {f : Ev → R D} (h : DE X RX W e f) : DI X RX W tg e (fIt itemsL f) := by
  refine pi_imp (pi_list h) fun σ H Q q => ?_
  obtain ⟨P, ρ, FE, S, q⟩ := q
  refine ⟨P, ρ, FE, S, ?_⟩
  unfold fIt at q
  cases e : f ρ with
  | ok d ρ1 =>
    simp only [e, R.bind] at q
    intro v P1 H1 FE1 F1 S1 T1 t1
    cases e2 : itemsL d with
    | none => simp only [e2, R.of] at q
    | some ds =>
      simp only [e2, R.of] at q
      obtain ⟨p, ev, hs, im⟩ := itemsL_im T1 e2
      exact ⟨p, ev, hs, q _ _ H1 FE1 (S1.give fun b z => ⟨(T1.own b z).1, (T1.own b z).2.2⟩) t1.give (walks_list im)⟩
  | exc x ρ1 => simp only [e, R.bind] at q; exact q
  | stk => simp only [e, R.bind] at q
theorem di_tup {f : Ev → R D} (h : DE X RX W e f) : DI X RX W tg e (fIt itemsT f) := by
  refine pi_imp (pi_tup h) fun σ H Q q => ?_
  obtain ⟨P, ρ, FE, S, q⟩ := q
  refine ⟨P, ρ, FE, S, ?_⟩
  unfold fIt at q
  cases e : f ρ with
  | ok d ρ1 =>
    simp only [e, R.bind] at q
    intro v P1 H1 FE1 F1 S1 T1 t1
    cases e2 : itemsT d with
    | none => simp only [e2, R.of] at q
    | some ds =>
      simp only [e2, R.of] at q
      obtain ⟨r, own⟩ := T1
      cases r with
      | tup h0 p rs =>
        cases e2
        exact ⟨_, rfl, ⟨_, .inl (.inl h0)⟩, q _ _ H1 FE1 (S1.give fun b z => ⟨(own b z).1, (own b z).2.2⟩) t1.give (walks_tup ⟨_, h0, .inl p, rls_frz rs (fun b z => .inl z) fun b z => .inr z⟩)⟩
      | _ => cases e2
  | exc x ρ1 => simp only [e, R.bind] at q; exact q
  | stk => simp only [e, R.bind] at q
def rng1 (ds : List D) : Option (List D) := match ds with
  | [.int j] => if -(2 ^ 62) ≤ j ∧ j < 2 ^ 62 then some (rangeD 0 j.toNat) else none
  | _ => none
/-- what an argument list's items give -/
theorem a_it {K : PySem.W.Frag} {f : Ev → R (List D)} {g : List D → Option (List D)} {σ : L2.St} {H : Hp} {Q : It → Hp → Prop} (q : tI K RX W (fItN g f) σ H Q) {C : List V → Hp → Prop}
    (w : ∀ (P : AS) (H1 : Hp) (ρ : Ev) (FE : FP) vs ds F ds', Stt K P H1 ρ σ FE → Tmps K P H1 FE ds vs F → g ds = some ds' → (∀ J, Walks K J (fun b => P b ∨ F b) H1 ds' → Q J H1) → C vs H1) : tA K RX W f σ H C := by
  obtain ⟨P, ρ, FE, S, q⟩ := q
  refine ⟨P, ρ, FE, S, ?_⟩
  unfold fItN at q
  cases e : f ρ with
  | ok d ρ1 =>
    simp only [e, R.bind] at q
    intro v P1 H1 FE1 F1 S1 T1 t1
    cases e2 : g d with
    | none => simp only [e2, R.of] at q
    | some ds =>
      simp only [e2, R.of] at q
      exact w P1 H1 ρ1 FE1 v d F1 ds S1 T1 e2 fun J k => q J _ H1 FE1 (S1.give fun b z => ⟨(T1.own b z).1, (T1.own b z).2.2⟩) t1.give k
  | exc x ρ1 => simp only [e, R.bind] at q; exact q
  | stk => simp only [e, R.bind] at q
omit [TabC] in
theorem rls1 {z : Bool} {K : PySem.W.Frag} {P : AS} {H : Hp} {d : D} {vs : List V} {F : AS} (h : Rls z K P H [d] vs F) : ∃ v, vs = [v] ∧ Rl z K P H d v F := by
  cases h with
  | cons r rs s1 s2 dj => cases rs; exact ⟨_, rfl, rl_mono r (fun _ q => q) (fun _ _ e _ _ => e) s1⟩
omit [TabC] in
theorem rls2 {z : Bool} {K : PySem.W.Frag} {P : AS} {H : Hp} {d e : D} {vs : List V} {F : AS} (h : Rls z K P H [d, e] vs F) : ∃ v w F1 F2, vs = [v, w] ∧ Rl z K P H d v F1 ∧ Rl z K P H e w F2 ∧ (∀ b, F1 b → F b) ∧ (∀ b, F2 b → F b) ∧ (∀ b, F1 b → F2 b → False) := by
  cases h with
  | cons r rs s1 s2 dj =>
    cases rs with
    | cons r' rs' s1' s2' dj' => cases rs'; exact ⟨_, _, _, _, rfl, r, r', s1, fun b z => s2 b (s1' b z), fun b z w => dj b z (s1' b w)⟩
omit [TabC] in
theorem rl_int {z : Bool} {K : PySem.W.Frag} {P : AS} {H : Hp} {i : Int} {v : V} {F : AS} (h : Rl z K P H (.int i) v F) : v = .int i := by cases h; rfl
omit [TabC] in
theorem rl_bl {z : Bool} {K : PySem.W.Frag} {P : AS} {H : Hp} {i : Bool} {v : V} {F : AS} (h : Rl z K P H (.bl i) v F) : v = .bl i := by cases h; rfl
omit [TabC] in
theorem rl_str {z : Bool} {K : PySem.W.Frag} {P : AS} {H : Hp} {i : Str} {v : V} {F : AS} (h : Rl z K P H (.str i) v F) : v = .str i := by cases h; rfl
omit [TabC] in
theorem rl_non {z : Bool} {K : PySem.W.Frag} {P : AS} {H : Hp} {v : V} {F : AS} (h : Rl z K P H .non v F) : v = .non := by cases h; rfl
omit [TabC] in
theorem rng1_ok {ds ds' : List D} (h : rng1 ds = some ds') : ∃ j, ds = [.int j] ∧ -(2 ^ 62) ≤ j ∧ j < 2 ^ 62 ∧ ds' = rangeD 0 j.toNat := by
  unfold rng1 at h
  split at h
  · rename_i j
    split at h
    · rename_i c
      cases h
      exact ⟨j, rfl, c.1, c.2, rfl⟩
    · cases h
  · cases h
theorem di_range1 {a : Expr} {f : Ev → R (List D)} {p pos : Pos} (hg : Gl X "range") (hm : X.mg "range" = none) (ha : DA X RX W [a] f) (hs : starEach [a] X.env = [(false, eval a X.env)] := by rfl) : DI X RX W tg (.Call (.Name "range" p) [a] [] pos) (fItN rng1 f) := by
  refine pi_imp (pi_range1 hg hm ha hs) fun σ H Q q => a_it q fun P H1 ρ FE vs ds F ds' S T g k => ?_
  obtain ⟨j, rfl, h1, h2, rfl⟩ := rng1_ok g
  obtain ⟨v, rfl, r⟩ := rls1 T.rl
  rw [rl_int r]
  exact ⟨j, rfl, h1, h2, k _ walks_range⟩
def enumL (ds : List D) : Option (List D) := match ds with
  | [d] => (itemsL d).map (enumD 0)
  | _ => none
def zipL (ds : List D) : Option (List D) := match ds with
  | [d, e] => (itemsL d).bind fun xs => (itemsL e).map (zipD xs)
  | _ => none
theorem di_enum {a : Expr} {f : Ev → R (List D)} {p pos tpos : Pos} {elts : List Expr} {kk : Nat} (hg : Gl X "enumerate") (hm : X.mg "enumerate" = none) (ha : DA X RX W [a] f) (hs : starEach [a] X.env = [(false, eval a X.env)] := by rfl) :
    DI X RX W (.Tuple elts kk tpos) (.Call (.Name "enumerate" p) [a] [] pos) (fItN enumL f) := by
  refine pi_imp (pi_enum hg hm ha hs) fun σ H Q q => a_it q fun P H1 ρ FE vs ds F ds' S T g k => ?_
  unfold enumL at g
  split at g
  · rename_i d
    cases e : itemsL d with
    | none => rw [e] at g; cases g
    | some xs =>
      rw [e] at g; cases g
      obtain ⟨v, rfl, r⟩ := rls1 T.rl
      obtain ⟨p, rfl, ⟨vs, s⟩, im⟩ := itemsL_im (Tmp.mk r T.own) e
      exact ⟨p, vs, rfl, s, k _ (walks_enum im)⟩
  · cases g
theorem di_zip {a b : Expr} {f : Ev → R (List D)} {p pos tpos : Pos} {elts : List Expr} {kk : Nat} (h : PI X (.Tuple elts kk tpos) (.Call (.Name "zip" p) [a, b] [] pos) (iZip X.K (tA X.K RX W f))) :
    DI X RX W (.Tuple elts kk tpos) (.Call (.Name "zip" p) [a, b] [] pos) (fItN zipL f) := by
  refine pi_imp h fun σ H Q q => a_it q fun P H1 ρ FE vs ds F ds' S T g k => ?_
  unfold zipL at g
  split at g
  · rename_i d e
    cases e1 : itemsL d with
    | none => rw [e1] at g; cases g
    | some xs =>
      cases e2 : itemsL e with
      | none => rw [e1, e2] at g; cases g
      | some ys =>
        rw [e1, e2] at g; cases g
        obtain ⟨v, w, F1, F2, rfl, r, r', s1, s2, dj⟩ := rls2 T.rl
        obtain ⟨p, rfl, ⟨vs, s⟩, im⟩ := itemsL_im (Tmp.mk r fun b z => T.own b (s1 b z)) e1
        obtain ⟨q, rfl, ⟨ws, s'⟩, im'⟩ := itemsL_im (Tmp.mk r' fun b z => T.own b (s2 b z)) e2
        have im1 : ImL X.K (fun b => P b ∨ F b) H1 p xs := by
          obtain ⟨vs, h, r⟩ := im
          exact ⟨vs, h.imp (fun h => ⟨h.1, h.2.imp id (s1 _)⟩) fun h => Rol.mono (z := true) (F := E_) h (fun b z => z.imp id (s1 b)) fun b o e _ _ => e, rls_mono r (fun b z => z.imp id (s1 b)) (fun b o e _ _ => e) fun _ z => z⟩
        have im2 : ImL X.K (fun b => P b ∨ F b) H1 q ys := by
          obtain ⟨vs, h, r⟩ := im'
          exact ⟨vs, h.imp (fun h => ⟨h.1, h.2.imp id (s2 _)⟩) fun h => Rol.mono (z := true) (F := E_) h (fun b z => z.imp id (s2 b)) fun b o e _ _ => e, rls_mono r (fun b z => z.imp id (s2 b)) (fun b o e _ _ => e) fun _ z => z⟩
        exact ⟨p, q, vs, ws, rfl, s, s', k _ (walks_zip im1 im2)⟩
  · cases g
def loopS (step : D → Ev → RS) : List D → Ev → RS
  | [], ρ => .nx ρ
  | d :: ds, ρ => match step d ρ with
    | .nx ρ' => loopS step ds ρ'
    | .ct ρ' => loopS step ds ρ'
    | .bk ρ' => .nx ρ'
    | .rt d ρ' => .rt d ρ'
    | .exc x ρ' => .exc x ρ'
    | .stk => .stk
def stepS (t : D → Ev → Option Ev) (g : Ev → RS) : D → Ev → RS := fun d ρ => match t d ρ with
  | some ρ' => g ρ'
  | none => .stk
def fFor (f : Ev → R (List D)) (t : D → Ev → Option Ev) (g : Ev → RS) : Ev → RS := fun ρ => RS.of (f ρ) (loopS (stepS t g))
theorem ds_for {kp : List Nat} {iter : Expr} {body : List Stmt} {f : Ev → R (List D)} {t : D → Ev → Option Ev} {g : Ev → RS} {pos : Pos} (hp : PassesOwn (model X.prog X.w) X.A X.env X.xe) (hc : X.calm = true)
    (hi : DI X RX W tg iter f) (hg : DG X kp tg t) (hb : DSs X RX W kp body g) (hs : ∀ x, foldedSetIterable iter X.env x = pure x := by intro _; rfl) : DS X RX W kp (.For tg iter body [] pos) (fFor f t g) := by
  refine ps_imp (ps_for hp hc hi hg hb hs) fun D σ H q => ?_
  obtain ⟨P, ρ, FE, S, q⟩ := q
  refine ⟨P, ρ, FE, S, ?_⟩
  unfold fFor at q
  cases e : f ρ with
  | exc x ρ1 => simp only [e, RS.of] at q; exact fun cls dx P' H' FE' S' t r => q cls dx σ P' H' FE' S' t Kp.refl r
  | stk => simp only [e, RS.of] at q; exact q
  | ok ds ρ1 =>
    simp only [e, RS.of] at q
    intro J P1 H1 FE1 S1 t1 wk
    have q1 := PoS.later q t1 Kp.refl
    refine ⟨fun i m σ2 H2 => m = ds.length - i ∧ i ≤ ds.length ∧ (∀ b o, P1 b → H1 b = some o → NT o → H2 b = some o) ∧ ∃ P2 ρ2 FE2, Stt X.K P2 H2 ρ2 σ2 FE2 ∧ (∀ b, P1 b → P2 b) ∧ PoS X.K RX W kp D P2 σ2 H2 FE2 (loopS (stepS t g) (ds.drop i) ρ2),
      ⟨ds.length, by simp, Nat.zero_le _, fun _ _ _ e _ => e, P1, ρ1, FE1, S1, fun _ z => z, by simpa using q1⟩, ?_⟩
    rintro i m σ2 H2 ⟨rfl, hi, kH, P2, ρ2, FE2, S2, kP, q2⟩
    by_cases hlt : i < ds.length
    · have hd : ds[i]? = some ds[i] := List.getElem?_eq_getElem hlt
      obtain ⟨go, yl⟩ := wk.go P2 H2 i ds[i] S2.pin kP kH hd
      have hdr : ds.drop i = ds[i] :: ds.drop (i + 1) := List.drop_eq_getElem_cons hlt
      rw [hdr] at q2
      refine .inr ⟨go, fun σ' H' => (∀ b o, P1 b → H1 b = some o → NT o → H' b = some o) ∧ ∃ P3 ρ3 FE3, Stt X.K P3 H' ρ3 σ' FE3 ∧ (∀ b, P1 b → P3 b) ∧ PoS X.K RX W kp D P3 σ' H' FE3 (loopS (stepS t g) (ds.drop (i + 1)) ρ3),
        fun σ' H' ⟨k1, z⟩ => ⟨ds.length - (i + 1), by omega, rfl, hlt, k1, z⟩, fun x H3 y => ?_⟩
      obtain ⟨P3, n3, r3⟩ := yl x H3 y
      have S3 := n3.stt S2
      have t3 : Tr P2 H2 (U FE2) P3 H3 (U FE2) := n3.tr.less'
      refine ⟨P3, ρ2, FE2, ds[i], E_, S3, ⟨r3, fun b z => z.elim⟩, ?_⟩
      simp only [loopS, stepS] at q2
      cases e1 : t ds[i] ρ2 with
      | none => simp only [e1] at q2; exact q2
      | some ρ3 =>
        simp only [e1] at q2
        intro σ4 P4 H4 FE4 S4 t4 k4
        have t4' : Tr P3 H3 (U FE2) P4 H4 (U FE4) := ⟨fun b o e n => t4.frame b o e fun z => z.elim n False.elim, t4.mono, fun b z => (t4.back b z).imp id fun z => z.imp (fun z => z.elim id False.elim) id, fun b z => (t4.sub b z).imp (fun z => z.elim id False.elim) id, t4.alive⟩
        have t24 := t3.trans t4'
        have kH4 : ∀ b o, P1 b → H1 b = some o → NT o → H4 b = some o := fun b o p e nt => t24.frame b o (kH b o p e nt) (fun ⟨j, z⟩ => (S2.fin j b z).2 (kP b p)) nt
        have kP4 : ∀ b, P1 b → P4 b := fun b z => t24.mono b (kP b z)
        refine ⟨P4, ρ3, FE4, S4, ?_⟩
        have nxt : ∀ {ρ5 : Ev} {σ5 : L2.St} {P5 : AS} {H5 : Hp} {FE5 : FP}, Stt X.K P5 H5 ρ5 σ5 FE5 → Tr P4 H4 (U FE4) P5 H5 (U FE5) → Kp kp σ4 σ5 → PoS X.K RX W kp D P2 σ2 H2 FE2 (loopS (stepS t g) (ds.drop (i + 1)) ρ5) →
            (∀ b o, P1 b → H1 b = some o → NT o → H5 b = some o) ∧ ∃ P3 ρ3 FE3, Stt X.K P3 H5 ρ3 σ5 FE3 ∧ (∀ b, P1 b → P3 b) ∧ PoS X.K RX W kp D P3 σ5 H5 FE3 (loopS (stepS t g) (ds.drop (i + 1)) ρ3) :=
          fun {ρ5 σ5 P5 H5 FE5} S5 t5 k5 q5 => ⟨fun b o p e nt => t5.frame b o (kH4 b o p e nt) (fun ⟨j, z⟩ => (S4.fin j b z).2 (kP4 b p)) nt, P5, ρ5, FE5, S5, fun b z => t5.mono b (kP4 b z), q5.later (t24.trans t5) (k4.trans k5)⟩
        cases e2 : g ρ3 with
        | nx ρ5 => simp only [e2] at q2; exact fun σ5 P5 H5 FE5 S5 t5 k5 => nxt S5 t5 k5 q2
        | ct ρ5 => simp only [e2] at q2; exact fun σ5 P5 H5 FE5 S5 t5 k5 => nxt S5 t5 k5 q2
        | bk ρ5 => simp only [e2] at q2; exact fun σ5 P5 H5 FE5 S5 t5 k5 => q2 σ5 P5 H5 FE5 S5 (t24.trans t5) (k4.trans k5)
        | rt d ρ5 => simp only [e2] at q2; exact fun v σ5 P5 H5 FE5 F5 S5 T5 t5 k5 => q2 v σ5 P5 H5 FE5 F5 S5 T5 (t24.trans t5) (k4.trans k5)
        | exc x ρ5 => simp only [e2] at q2; exact fun cls dx σ5 P5 H5 FE5 S5 t5 k5 r => q2 cls dx σ5 P5 H5 FE5 S5 (t24.trans t5) (k4.trans k5) r
        | stk => simp only [e2] at q2; exact q2
    · have e : i = ds.length := by omega
      subst e
      rw [List.drop_length] at q2
      exact .inl ⟨wk.stop H2 kH, q2 σ2 P2 H2 FE2 S2 Tr.refl Kp.refl⟩
end
end Hap
namespace Hap
open PySem PySem.Spec PyProof.Rows L2
variable [TabC]
def whileS (c : Ev → R Bool) (g : Ev → RS) : Nat → Ev → RS
  | 0, _ => .stk
  | n + 1, ρ => match c ρ with
    | .ok true ρ1 => (match g ρ1 with
      | .nx ρ2 => whileS c g n ρ2
      | .ct ρ2 => whileS c g n ρ2
      | .bk ρ2 => .nx ρ2
      | .rt d ρ2 => .rt d ρ2
      | .exc x ρ2 => .exc x ρ2
      | .stk => .stk)
    | .ok false ρ1 => .nx ρ1
    | .exc x ρ1 => .exc x ρ1
    | .stk => .stk
def fWhile (n : Nat) (c : Ev → R Bool) (g : Ev → RS) : Ev → RS := whileS c g n
section
variable {X : Cx} {RX : RXR} {W : WX} {kp : List Nat}
theorem ds_while {n : Nat} {c : Expr} {body : List Stmt} {f : Ev → R Bool} {g : Ev → RS} {pos : Pos} (hp : PassesOwn (model X.prog X.w) X.A X.env X.xe) (hc : DT X RX W c f) (hb : DSs X RX W kp body g) : DS X RX W kp (.While c body [] pos) (fWhile n f g) := by
  refine ps_imp (ps_while hp hc hb) fun D σ H q => ?_
  obtain ⟨P, ρ, FE, S, q⟩ := q
  refine ⟨fun m σ2 H2 => ∃ P2 ρ2 FE2, Stt X.K P2 H2 ρ2 σ2 FE2 ∧ PoS X.K RX W kp D P2 σ2 H2 FE2 (whileS f g m ρ2), ⟨n, P, ρ, FE, S, q⟩, ?_⟩
  rintro m σ2 H2 ⟨P2, ρ2, FE2, S2, q2⟩
  refine ⟨P2, ρ2, FE2, S2, ?_⟩
  cases m with
  | zero => exact q2.elim
  | succ m =>
    simp only [whileS] at q2
    cases e : f ρ2 with
    | exc x ρ3 => simp only [e] at q2; exact fun cls dx P' H' FE' S' t r => q2 cls dx σ2 P' H' FE' S' t Kp.refl r
    | stk => simp only [e] at q2; exact q2
    | ok b ρ3 =>
      intro P3 H3 FE3 S3 t3
      cases b with
      | false =>
        simp only [e] at q2
        exact q2 σ2 P3 H3 FE3 S3 t3 Kp.refl
      | true =>
        simp only [e] at q2
        refine ⟨fun σ4 H4 => ∃ P4 ρ4 FE4, Stt X.K P4 H4 ρ4 σ4 FE4 ∧ PoS X.K RX W kp D P4 σ4 H4 FE4 (whileS f g m ρ4), fun σ4 H4 z => ⟨m, Nat.lt_succ_self m, z⟩, P3, ρ3, FE3, S3, ?_⟩
        cases e2 : g ρ3 with
        | nx ρ4 => simp only [e2] at q2; exact fun σ4 P4 H4 FE4 S4 t4 k4 => ⟨P4, ρ4, FE4, S4, q2.later (t3.trans t4) k4⟩
        | ct ρ4 => simp only [e2] at q2; exact fun σ4 P4 H4 FE4 S4 t4 k4 => ⟨P4, ρ4, FE4, S4, q2.later (t3.trans t4) k4⟩
        | bk ρ4 => simp only [e2] at q2; exact fun σ4 P4 H4 FE4 S4 t4 k4 => q2 σ4 P4 H4 FE4 S4 (t3.trans t4) k4
        | rt d ρ4 => simp only [e2] at q2; exact fun v σ4 P4 H4 FE4 F4 S4 T4 t4 k4 => q2 v σ4 P4 H4 FE4 F4 S4 T4 (t3.trans t4) k4
        | exc x ρ4 => simp only [e2] at q2; exact fun cls dx σ4 P4 H4 FE4 S4 t4 k4 r => q2 cls dx σ4 P4 H4 FE4 S4 (t3.trans t4) k4 r
        | stk => simp only [e2] at q2; exact q2
end
def wipeE (ρ : Ev) : List Nat → Ev
  | [] => ρ
  | v :: vs => (wipeE ρ vs).set v none
/-- the slots of the block's own names as they were (nothing of one's own may stand there) -/
def backE (ρ0 ρ : Ev) : List Nat → Ev
  | [] => ρ
  | v :: vs => (backE ρ0 ρ vs).set v (match ρ0[v]? with | some o => o | none => none)
def immAt (ρ : Ev) (vs : List Nat) : Bool := vs.all fun v => match ρ[v]? with
  | some (some d) => isImm d
  | _ => true
/-- items one by one: the target, the tests, the element -/
def loopC (t : D → Ev → Option Ev) (c : Ev → R Bool) (f : Ev → R D) (vs : List Nat) : List D → List D → Ev → R (List D)
  | [], acc, ρ => .ok acc ρ
  | d :: ds, acc, ρ => match t d ρ with
    | none => .stk
    | some ρ1 => match c ρ1 with
      | .ok true ρ2 => (match f ρ2 with
        | .ok e ρ3 => loopC t c f vs ds (acc ++ [e]) (wipeE ρ3 vs)
        | _ => .stk)
      | .ok false ρ2 => loopC t c f vs ds acc (wipeE ρ2 vs)
      | _ => .stk
def fLc (i : Ev → R (List D)) (t : D → Ev → Option Ev) (c : Ev → R Bool) (f : Ev → R D) (vs : List Nat) : Ev → R D := fun ρ => (i ρ).bind fun ds ρ1 =>
  if immAt ρ1 vs = true ∧ ds.length ≤ sizeLine then
    match loopC t c f vs ds [] (wipeE ρ1 vs) with
    | .ok acc ρ2 => .ok (.lst true acc) (backE ρ1 ρ2 vs)
    | _ => .stk
  else .stk
section
variable {K : PySem.W.Frag} {P P' : AS} {H : Hp} {FE : FP} {ρ ρ1 : Ev} {σ : L2.St}
omit [TabC] in
theorem rls_snoc {z : Bool} {d : D} {v : V} : ∀ {ds : List D} {vs : List V} {F1 F2 F : AS}, Rls z K P H ds vs F1 → Rl z K P H d v F2 → (∀ b, F1 b → F b) → (∀ b, F2 b → F b) → (∀ b, F1 b → F2 b → False) → Rls z K P H (ds ++ [d]) (vs ++ [v]) F
  | _, _, F1, F2, F, .nil, r, _, s2, _ => .cons (F1 := F2) (F2 := E_) r .nil s2 (fun _ q => q.elim) fun _ _ q => q
  | _, _, F1, F2, F, .cons (F1 := G1) (F2 := G2) r' rs t1 t2 dj', r, s1, s2, dj =>
    .cons (F1 := G1) (F2 := fun b => G2 b ∨ F2 b) r' (rls_snoc rs r (fun _ q => .inl q) (fun _ q => .inr q) fun b q w => dj b (t2 b q) w) (fun b q => s1 b (t1 b q)) (fun b q => q.elim (fun q => s1 b (t2 b q)) (s2 b)) fun b q w => w.elim (dj' b q) (dj b (t1 b q))
omit [TabC] in
theorem wipeE_in {v : Nat} {d : D} : ∀ {vs : List Nat} {ρ : Ev}, (wipeE ρ vs)[v]? = some (some d) → v ∉ vs ∧ ρ[v]? = some (some d)
  | [], _, h => ⟨by simp, h⟩
  | u :: vs, ρ, h => by
    unfold wipeE at h
    by_cases e : u = v
    · subst e
      by_cases hl : u < (wipeE ρ vs).length
      · rw [List.getElem?_set_self hl] at h; cases h
      · rw [List.getElem?_eq_none (by simpa using hl)] at h; cases h
    · rw [List.getElem?_set_ne e] at h
      obtain ⟨h1, h2⟩ := wipeE_in h
      exact ⟨by simp only [List.mem_cons, not_or]; exact ⟨Ne.symm e, h1⟩, h2⟩
omit [TabC] in
theorem wipeE_len : ∀ (vs : List Nat) (ρ : Ev), (wipeE ρ vs).length = ρ.length
  | [], _ => rfl
  | u :: vs, ρ => by unfold wipeE; rw [List.length_set, wipeE_len vs ρ]
omit [TabC] in
theorem wipe_get {v : Nat} : ∀ {vs : List Nat} {σ : L2.St}, v ∉ vs → (wipe σ vs)[v]? = σ[v]?
  | [], _, _ => rfl
  | u :: vs, σ, h => by
    simp only [List.mem_cons, not_or] at h
    unfold wipe
    rw [List.getElem?_set_ne (Ne.symm h.1)]
    exact wipe_get h.2
omit [TabC] in
theorem wipe_in {v : Nat} : ∀ {vs : List Nat} {σ : L2.St}, v ∈ vs → v < σ.length → (wipe σ vs)[v]? = some none
  | [], _, h, _ => by simp at h
  | u :: vs, σ, h, hl => by
    unfold wipe
    by_cases e : u = v
    · subst e
      rw [List.getElem?_set_self (by rw [wipe_length]; exact hl)]
    · rw [List.getElem?_set_ne e]
      exact wipe_in (by simpa [Ne.symm e] using h) hl
theorem wipe_eq {vs : List Nat} {σ σ' : L2.St} (hl : σ'.length = σ.length) (h : ∀ i, i ∉ vs → σ'[i]? = σ[i]?) : wipe σ' vs = wipe σ vs := by
  apply List.ext_getElem?
  intro i
  by_cases hi : i ∈ vs
  · by_cases hlt : i < σ.length
    · rw [wipe_in hi hlt, wipe_in hi (by omega)]
    · rw [List.getElem?_eq_none (by rw [wipe_length]; omega), List.getElem?_eq_none (by rw [wipe_length]; omega)]
  · rw [wipe_get hi, wipe_get hi, h i hi]
omit [TabC] in
theorem backE_len : ∀ (vs : List Nat) (ρ0 ρ : Ev), (backE ρ0 ρ vs).length = ρ.length
  | [], _, _ => rfl
  | u :: vs, ρ0, ρ => by unfold backE; rw [List.length_set, backE_len vs ρ0 ρ]
omit [TabC] in
theorem backE_get {v : Nat} : ∀ {vs : List Nat} {ρ0 ρ : Ev}, v ∉ vs → (backE ρ0 ρ vs)[v]? = ρ[v]?
  | [], _, _, _ => rfl
  | u :: vs, ρ0, ρ, h => by
    simp only [List.mem_cons, not_or] at h
    unfold backE
    rw [List.getElem?_set_ne (Ne.symm h.1)]
    exact backE_get h.2
omit [TabC] in
theorem backE_in {v : Nat} {d : D} : ∀ {vs : List Nat} {ρ0 ρ : Ev}, v ∈ vs → (backE ρ0 ρ vs)[v]? = some (some d) → ρ0[v]? = some (some d)
  | [], _, _, h, _ => by simp at h
  | u :: vs, ρ0, ρ, h, e => by
    unfold backE at e
    by_cases hu : u = v
    · subst hu
      by_cases hl : u < (backE ρ0 ρ vs).length
      · rw [List.getElem?_set_self hl] at e
        split at e
        · rename_i o eo
          cases e
          exact eo
        · cases e
      · rw [List.getElem?_eq_none (by simpa using hl)] at e; cases e
    · rw [List.getElem?_set_ne hu] at e
      exact backE_in (by simpa [Ne.symm hu] using h) e
theorem Stt.wipe (S : Stt K P H ρ σ FE) (vs : List Nat) : Stt K P H (wipeE ρ vs) (L2.wipe σ vs) FE where
  pin := S.pin
  fin := S.fin
  dj := S.dj
  rel := fun i d e => by
    obtain ⟨h1, h2⟩ := wipeE_in e
    obtain ⟨v, e1, r⟩ := S.rel i d h2
    exact ⟨v, by rw [wipe_get h1]; exact e1, r⟩
  len := by rw [wipeE_len, wipe_length, S.len]
  tab := S.tab
/-- behind a block's turn: forget the block's names -/
theorem Stt.wipe2 {σ0 : L2.St} (S : Stt K P H ρ σ FE) {vs : List Nat} (h : L2.wipe σ vs = L2.wipe σ0 vs) : Stt K P H (wipeE ρ vs) (L2.wipe σ0 vs) FE := h ▸ S.wipe vs
/-- an object of a thing at hand is written -/
theorem Stt.write {a : Addr} {o u : HO} (S : Stt K P H ρ σ FE) (e : H a = some u) (n : Nd u) (h1 : ¬ P a) (h2 : ¬ U FE a) : Stt K P (upd H a o) ρ σ FE where
  tab := tabs_write S.tab e n
  pin := fun b q => by rw [upd_ne (fun e => h1 (by rw [← e]; exact q))]; exact S.pin b q
  fin := fun i b q => ⟨by rw [upd_ne (fun e => h2 ⟨i, by rw [← e]; exact q⟩)]; exact (S.fin i b q).1, (S.fin i b q).2⟩
  dj := S.dj
  rel := fun i d e => by
    obtain ⟨v, e1, r⟩ := S.rel i d e
    exact ⟨v, e1, rl_mono r (fun _ q => q) (fun b o e q _ => by rw [upd_ne]; exact e; intro z; subst z; exact (q rfl).elim h1 fun w => h2 ⟨i, w⟩) fun _ q => q⟩
  len := S.len
omit [TabC] in
theorem Tr.write {U0 U1 : AS} {P0 : AS} {H0 : Hp} {a : Addr} {o : HO} (t : Tr P0 H0 U0 P H U1) (h : U1 a) : Tr P0 H0 U0 P (upd H a o) U1 where
  frame := fun b u e n nt => by
    rw [upd_ne]
    · exact t.frame b u e n nt
    · intro z; subst z
      exact (t.sub _ h).elim n fun w => by rw [e] at w; cases w
  mono := t.mono
  back := t.back
  sub := t.sub
  alive := fun b q => by
    by_cases z : b = a
    · subst z; rw [upd_same]; simp
    · rw [upd_ne z]; exact t.alive b q
end
section
variable {X : Cx} {RX : RXR} {W : WX}
def tLcD (K : PySem.W.Frag) (RX : RXR) (W : WX) (i : Ev → R (List D)) (t : D → Ev → Option Ev) (c : Ev → R Bool) (f : Ev → R D) (kp vs : List Nat) : TE :=
  tLc (tI K RX W i) (tG K kp t) (tT K RX (fun _ _ _ _ => False) c) (tE K RX (fun _ _ _ _ => False) f) vs
/-- the reading of a comprehension -/
theorem lc_ok {K : PySem.W.Frag} {i : Ev → R (List D)} {t : D → Ev → Option Ev} {c : Ev → R Bool} {f : Ev → R D} {kp vs : List Nat} {n : Nat} (hkp : kp = (List.range n).filter fun j => decide (j ∉ vs)) {σ : L2.St} {H : Hp} {Q : VK} (hn : σ.length = n)
    (q : tE K RX W (fLc i t c f vs) σ H Q) : tLcD K RX W i t c f kp vs σ H Q := by
  obtain ⟨P, ρ, FE, S, q⟩ := q
  refine ⟨P, ρ, FE, S, ?_⟩
  unfold fLc at q
  cases e : i ρ with
  | exc x ρ1 => simp only [e, R.bind] at q; exact q
  | stk => simp only [e, R.bind] at q
  | ok ds ρ1 =>
    simp only [e, R.bind] at q
    intro J P1 H1 FE1 S1 t1 wk A hA
    by_cases hc : immAt ρ1 vs = true ∧ ds.length ≤ sizeLine
    · simp only [if_pos hc] at q
      cases hl : loopC t c f vs ds [] (wipeE ρ1 vs) with
      | exc x ρ2 => simp only [hl] at q
      | stk => simp only [hl] at q
      | ok accF ρF =>
        simp only [hl] at q
        have nP1 : ¬ P1 A := fun z => S1.pin A z hA
        have nU1 : ¬ U FE1 A := fun ⟨j, z⟩ => (S1.fin j A z).1 hA
        have n0 : New P1 H1 P1 (upd H1 A (.lst [])) (fun b => b = A) := New.lst hA S1.pin
        have T0 : Tmp K P1 (upd H1 A (.lst [])) FE1 (.lst true []) (.ref A) (fun b => b = A) := n0.tmp S1 (.lstO (F' := E_) upd_same (fun _ => rfl) (fun b z => z.elim) .nil)
        refine ⟨fun k m H2 => m = ds.length - k ∧ k ≤ ds.length ∧ (∀ b o, P1 b → H1 b = some o → NT o → H2 b = some o) ∧ ∃ P2 ρ2 FE2 acc F2, Stt K P2 H2 ρ2 (wipe σ vs) FE2 ∧ Tmp K P2 H2 FE2 (.lst true acc) (.ref A) F2 ∧ Tr P1 H1 (U FE1) P2 H2 (fun b => U FE2 b ∨ F2 b) ∧
            acc.length ≤ k ∧ loopC t c f vs (ds.drop k) acc ρ2 = .ok accF ρF,
          ⟨ds.length, by simp, Nat.zero_le _, fun b o _ z => n0.same b o z, P1, wipeE ρ1 vs, FE1, [], fun b => b = A, (n0.stt S1).wipe vs, T0, n0.tr, Nat.zero_le _, by simpa using hl⟩, ?_⟩
        rintro k m H2 ⟨rfl, hk, kH, P2, ρ2, FE2, acc, F2, S2, T2, t2, ha, hq⟩
        have kP : ∀ b, P1 b → P2 b := t2.mono
        by_cases hlt : k < ds.length
        · have hd : ds[k]? = some ds[k] := List.getElem?_eq_getElem hlt
          obtain ⟨go, yl⟩ := wk.go P2 H2 k ds[k] S2.pin kP kH hd
          rw [List.drop_eq_getElem_cons hlt] at hq
          refine .inr ⟨go, fun H' => (∀ b o, P1 b → H1 b = some o → NT o → H' b = some o) ∧ ∃ P3 ρ3 FE3 acc3 F3, Stt K P3 H' ρ3 (wipe σ vs) FE3 ∧ Tmp K P3 H' FE3 (.lst true acc3) (.ref A) F3 ∧ Tr P1 H1 (U FE1) P3 H' (fun b => U FE3 b ∨ F3 b) ∧
              acc3.length ≤ k + 1 ∧ loopC t c f vs (ds.drop (k + 1)) acc3 ρ3 = .ok accF ρF, fun H' ⟨k1, z⟩ => ⟨ds.length - (k + 1), by omega, rfl, hlt, k1, z⟩, fun x H3 y => ?_⟩
          obtain ⟨P3, n3, r3⟩ := yl x H3 y
          have S3 := n3.stt S2
          have u3 : Tr P2 H2 (U FE2) P3 H3 (fun b => U FE2 b ∨ E_ b) := n3.tr
          have T3 := (T2.step S2 u3).1
          have t3 : Tr P1 H1 (U FE1) P3 H3 (fun b => U FE2 b ∨ F2 b) := (t2.seq u3).less fun b z => z.elim (fun z => .inl (.inl z)) .inr
          refine ⟨P3, ρ2, FE2, ds[k], E_, S3, ⟨r3, fun b z => z.elim⟩, ?_⟩
          simp only [loopC] at hq
          cases e1 : t ds[k] ρ2 with
          | none => simp only [e1] at hq; cases hq
          | some ρ4 =>
            simp only [e1] at hq
            intro σ4 P4 H4 FE4 S4 u4' k4
            have u4 : Tr P3 H3 (U FE2) P4 H4 (fun b => U FE4 b ∨ E_ b) := ⟨fun b o e n => u4'.frame b o e fun z => z.elim n False.elim, u4'.mono, fun b z => (u4'.back b z).imp id fun z => z.imp (fun z => z.elim id False.elim) id, fun b z => (u4'.sub b (z.elim id False.elim)).imp (fun z => z.elim id False.elim) id, u4'.alive⟩
            have T4 := (T3.step S3 u4).1
            have t4 : Tr P1 H1 (U FE1) P4 H4 (fun b => U FE4 b ∨ F2 b) := (t3.seq u4).less fun b z => z.elim (fun z => .inl (.inl z)) .inr
            have hw : wipe σ4 vs = wipe σ vs := by
              refine wipe_eq (k4.1.trans (wipe_length _ _)) fun j hj => ?_
              by_cases hj2 : j < n
              · rw [k4.2 j (by rw [hkp]; exact List.mem_filter.mpr ⟨List.mem_range.mpr hj2, decide_eq_true hj⟩), wipe_get hj]
              · have l4 : σ4.length = σ.length := k4.1.trans (wipe_length _ _)
                rw [List.getElem?_eq_none (by omega), List.getElem?_eq_none (by omega)]
            refine ⟨hw, P4, ρ4, FE4, S4, ?_⟩
            cases e2 : c ρ4 with
            | exc x ρ5 => simp only [e2] at hq; cases hq
            | stk => simp only [e2] at hq; cases hq
            | ok b ρ5 =>
              intro P5 H5 FE5 S5 u5'
              have u5 : Tr P4 H4 (U FE4) P5 H5 (fun b => U FE5 b ∨ E_ b) := u5'.less fun b z => z.elim id False.elim
              have T5 := (T4.step S4 u5).1
              have t5 : Tr P1 H1 (U FE1) P5 H5 (fun b => U FE5 b ∨ F2 b) := (t4.seq u5).less fun b z => z.elim (fun z => .inl (.inl z)) .inr
              cases b with
              | false =>
                simp only [e2] at hq
                exact ⟨fun b o p e => t5.frame b o e fun ⟨j, z⟩ => (S1.fin j b z).2 p, P5, wipeE ρ5 vs, FE5, acc, F2, S5.wipe2 hw, T5, t5, by omega, hq⟩
              | true =>
                simp only [e2] at hq
                refine ⟨P5, ρ5, FE5, S5, ?_⟩
                cases e3 : f ρ5 with
                | exc x ρ6 => simp only [e3] at hq; cases hq
                | stk => simp only [e3] at hq; cases hq
                | ok d ρ6 =>
                  simp only [e3] at hq
                  intro v P6 H6 FE6 F6 S6 T6 u6
                  obtain ⟨T7, dj⟩ := T5.step S5 u6
                  have t6 : Tr P1 H1 (U FE1) P6 H6 (fun b => U FE6 b ∨ (F2 b ∨ F6 b)) := (t5.seq u6).less fun b z => by
                    rcases z with z | z | z
                    · exact .inl (.inl z)
                    · exact .inr z
                    · exact .inl (.inr z)
                  obtain ⟨r7, o7⟩ := T7
                  cases r7 with
                  | @lstO _ vsa _ _ F' ea fA s rs =>
                    have nA6 := o7 A (fA rfl)
                    have nF6 : ¬ F6 A := fun z => dj A (fA rfl) z
                    have nF' : ¬ F' A := fun z => (s A z).2 rfl
                    have la : vsa.length < sizeLine := by
                      rw [← rls_len rs]
                      exact Nat.lt_of_le_of_lt ha (Nat.lt_of_lt_of_le hlt hc.2)
                    refine ⟨vsa, ea, la, fun b o p e => ?_, P6, wipeE ρ6 vs, FE6, acc ++ [d], fun b => F2 b ∨ F6 b, (S6.write ea .lst nA6.2.1 nA6.2.2).wipe2 hw, ⟨.lstO (F' := fun b => F' b ∨ F6 b) upd_same (fun z => .inl (fA z)) (fun b z => z.elim (fun z => ⟨.inl (s b z).1, (s b z).2⟩) fun z => ⟨.inr z, fun w => nF6 (by rw [← w]; exact z)⟩) ?_, fun b z => ?_⟩,
                      t6.write (.inr (.inl (fA rfl))), by rw [List.length_append, List.length_singleton]; omega, hq⟩
                    · rw [upd_ne]
                      · exact t6.frame b o e fun ⟨j, z⟩ => (S1.fin j b z).2 p
                      · intro w; subst w; exact nP1 p
                    · have mv : ∀ {F : AS} {d : D} {v : V}, Rl true K P6 H6 d v F → ¬ F A → Rl true K P6 (upd H6 A (.lst (vsa ++ [v]))) d v F := fun r nz => rl_mono r (fun _ q => q) (fun b o e q _ => by
                        rw [upd_ne]
                        · exact e
                        · intro w; subst w; exact (q rfl).elim nA6.2.1 nz) fun _ q => q
                      refine rls_snoc (F1 := F') (F2 := F6) (rls_mono rs (fun _ q => q) (fun b o e q _ => ?_) fun _ q => q) (mv T6.rl nF6) (fun b z => .inl z) (fun b z => .inr z) fun b z w => dj b (s b z).1 w
                      rw [upd_ne]
                      · exact e
                      · intro w; subst w; exact (q rfl).elim nA6.2.1 nF'
                    · have h : H6 b ≠ none ∧ ¬ P6 b ∧ ¬ U FE6 b := z.elim (o7 b) (T6.own b)
                      refine ⟨?_, h.2⟩
                      by_cases w : b = A
                      · subst w; rw [upd_same]; simp
                      · rw [upd_ne w]; exact h.1
        · have e : k = ds.length := by omega
          subst e
          rw [List.drop_length] at hq
          simp only [loopC] at hq
          cases hq
          have hU : ∀ b, U (fun j b => if j ∈ vs then False else FE2 j b) b → U FE2 b := fun b ⟨j, z⟩ => by
            have z : (if j ∈ vs then False else FE2 j b) := z
            by_cases hj : j ∈ vs
            · rw [if_pos hj] at z; exact z.elim
            · rw [if_neg hj] at z; exact ⟨j, z⟩
          refine .inl ⟨wk.stop H2 kH, q (.ref A) P2 H2 (fun j b => if j ∈ vs then False else FE2 j b) F2 ⟨S2.pin, fun j b z => ?_, fun j j' b z w => ?_, fun j d z => ?_, ?_, S2.tab⟩ ⟨T2.rl, fun b z => ⟨(T2.own b z).1, (T2.own b z).2.1, fun w => (T2.own b z).2.2 (hU b w)⟩⟩ ?_⟩
          · have z : (if j ∈ vs then False else FE2 j b) := z
            by_cases hj : j ∈ vs
            · rw [if_pos hj] at z; exact z.elim
            · rw [if_neg hj] at z; exact S2.fin j b z
          · have z : (if j ∈ vs then False else FE2 j b) := z
            have w : (if j' ∈ vs then False else FE2 j' b) := w
            by_cases hj : j ∈ vs
            · rw [if_pos hj] at z; exact z.elim
            · rw [if_neg hj] at z
              by_cases hj' : j' ∈ vs
              · rw [if_pos hj'] at w; exact w.elim
              · rw [if_neg hj'] at w; exact S2.dj j j' b z w
          · by_cases hj : j ∈ vs
            · have z1 := backE_in hj z
              obtain ⟨v, e1, r1⟩ := S1.rel j d z1
              refine ⟨v, e1, ?_⟩
              have hi : isImm d = true := by
                have := List.all_eq_true.mp hc.1 j hj
                simpa only [z1] using this
              exact rl_mono (z := true) (F := E_) (rl_imm r1 hi) kP (fun b o e p => kH b o ((p rfl).elim id False.elim) e) fun b z => z.elim
            · rw [backE_get hj] at z
              obtain ⟨v, e1, r1⟩ := S2.rel j d z
              rw [wipe_get hj] at e1
              exact ⟨v, e1, rl_mono r1 (fun _ q => q) (fun _ _ e _ _ => e) fun b z => by show (if j ∈ vs then False else FE2 j b); rw [if_neg hj]; exact z⟩
          · rw [backE_len]
            have := S2.len
            rw [wipe_length] at this
            exact this
          · exact t1.trans (t2.less fun b z => z.imp (hU b) id)
    · simp only [if_neg hc] at q
end
end Hap
namespace Hap
open PySem PySem.Spec PyProof.Rows L2
variable [TabC]
section
variable {X : Cx} {RX : RXR} {W : WX}
theorem de_lc {e : Expr} {i : Ev → R (List D)} {t : D → Ev → Option Ev} {c : Ev → R Bool} {f : Ev → R D} {kp vs : List Nat} (hkp : kp = (List.range X.N.length).filter fun j => decide (j ∉ vs))
    (h : PE X e (tLcD X.K RX W i t c f kp vs)) : DE X RX W e (fLc i t c f vs) := ⟨fun pins s σ H Q I q => h.run pins s σ H Q I (lc_ok hkp I.len q)⟩
theorem ds_setLc {s : Stmt} {n : Nat} {i : Ev → R (List D)} {t : D → Ev → Option Ev} {c : Ev → R Bool} {f : Ev → R D} {kp kpo vs : List Nat} (hkp : kp = (List.range X.N.length).filter fun j => decide (j ∉ vs))
    (h : PS X s (tAsg (tLcD X.K RX W i t c f kp vs) (gName n))) (hk : n ∉ kpo) : DS X RX W kpo s (fAsg (fLc i t c f vs) (gN n)) :=
  ds_set ⟨fun pins s σ H D I q => h.run pins s σ H D I (lc_ok hkp I.len q)⟩ hk
theorem dts_nil : PTs X [] (tT X.K RX W fun ρ => .ok true ρ) := ⟨fun pins s σ H Q I ⟨P, ρ, FE, S, q⟩ => pts_nil.run pins s σ H Q I (q P H FE S Tr.refl)⟩
theorem dts_one {c : Expr} {f : Ev → R Bool} (h : DT X RX W c f) : PTs X [c] (tT X.K RX W f) := pts_one h
end
inductive RF where
  | rt (d : D) (outs : Ev)
  | exc (x : DX) (outs : Ev)
  | stk
abbrev Fn := List D → RF
def spD (K : PySem.W.Frag) (RX : RXR) (io : List Bool) (sem : Fn) : Sp := fun vs H Q E => vs.length = io.length ∧ ∃ P ds FA, Stt K P H (ds.map some) (vs.map some) FA ∧ (∀ i, io[i]? ≠ some true → ∀ b, ¬ FA i b) ∧ match sem ds with
  | .rt d outs => ∀ v P' H' FA' F, Stt K P' H' outs (vs.map some) FA' → Tmp K P' H' FA' d v F → Tr P H (U FA) P' H' (fun b => U FA' b ∨ F b) → Q v H'
  | .exc x outs => ∀ cls dx P' H' FA', Stt K P' H' outs (vs.map some) FA' → Tr P H (U FA) P' H' (U FA') → RX x P' H' cls dx → E cls dx H'
  | .stk => False
def outsOf : List Bool → Ev → Ev
  | [], _ => []
  | _ :: bs, [] => none :: outsOf bs []
  | b :: bs, o :: os => (if b = true then o else none) :: outsOf bs os
omit [TabC] in
theorem outsOf_len : ∀ (io : List Bool) (ρ : Ev), (outsOf io ρ).length = io.length
  | [], _ => rfl
  | _ :: bs, [] => congrArg (· + 1) (outsOf_len bs [])
  | _ :: bs, _ :: os => congrArg (· + 1) (outsOf_len bs os)
omit [TabC] in
theorem outsOf_get : ∀ {io : List Bool} {ρ : Ev} {i : Nat} {d : D}, (outsOf io ρ)[i]? = some (some d) → io[i]? = some true ∧ ρ[i]? = some (some d)
  | [], _, _, _, h => by simp [outsOf] at h
  | _ :: bs, [], 0, _, h => by simp [outsOf] at h
  | _ :: bs, [], i + 1, d, h => by
    simp only [outsOf, List.getElem?_cons_succ] at h
    have := outsOf_get h
    simp at this
  | b :: bs, o :: os, 0, d, h => by
    simp only [outsOf, List.getElem?_cons_zero] at h
    cases b with
    | true => simp only [if_pos] at h; exact ⟨rfl, h⟩
    | false => simp at h
  | b :: bs, o :: os, i + 1, d, h => by
    simp only [outsOf, List.getElem?_cons_succ] at h
    obtain ⟨h1, h2⟩ := outsOf_get h
    exact ⟨by simpa using h1, by simpa using h2⟩
/-- what a def does, by its body -/
def semOf (io : List Bool) (n : Nat) (g : Ev → RS) : Fn := fun ds => match g (ds.map some ++ List.replicate (n - ds.length) none) with
  | .nx ρ => .rt .non (outsOf io ρ)
  | .rt d ρ => .rt d (outsOf io ρ)
  | .exc x ρ => .exc x (outsOf io ρ)
  | _ => .stk
/-- the places of what is changed -/
def kpOf (io : List Bool) : List Nat := (List.range io.length).filter fun i => io[i]? == some true
omit [TabC] in
theorem kpOf_in {io : List Bool} {i : Nat} (h : io[i]? = some true) : i ∈ kpOf io := by
  refine List.mem_filter.mpr ⟨List.mem_range.mpr (List.getElem?_eq_some_iff.mp h).1, ?_⟩
  rw [h]; rfl
section
variable {P : Program} {w : World} {K : PySem.W.Frag} {mg : Str → Option Value} {base : Heap} {RX : RXR}
omit [TabC] in
/-- around a body nothing is let out -/
theorem takesN0 {X : Cx} : L2N.Takes X (fun _ _ _ _ => False) := fun _ _ x => by
  obtain ⟨_, _, _, _, _, _, _, _, _, _, _, _, _, _, _, _, z⟩ := x
  exact z.elim
theorem fn_okL {x qual : Str} {st : Stmt} {f : Addr} {oc : Value} {od an : Option Addr} {kV doc pm cdv ct : Value} {osl : Array (Option Value)} {N ps : List Str} {k n : Nat} {io : List Bool} {g : Ev → RS} (lk : K.lookup f = some ⟨oc, od, .func (PySem.W.fnOf x qual (defArgs st) (defBody st) (defScope st) .none kV doc pm an cdv ct), osl⟩) (hcd : PySem.W.codeIn K cdv qual = true) (S : FnScope N ps (defScope st)) (hl : ps.length = io.length) (hn : N.length = n)
    (body : ∀ (A : Around) (outer : List Env) (s : Shared) (H : Hp) (E : XK), Room k (A.deeper (envOfC qual (defScope st) s.heap.objs.size f cdv)) →
      DSs (cxOf (L2N.CX P w) P w K mg base N qual (defScope st) f cdv A outer s H E) RX (fun cls d _ H => E cls d H) (kpOf io) (defBody st) g) :
    FnOk P w K mg base (L2N.CX P w) (k + 1) f (PySem.W.fnOf x qual (defArgs st) (defBody st) (defScope st) .none kV doc pm an cdv ct) ps (spD K RX io (semOf io n g)) := by
  refine fn_of lk hcd S (fun vs H Q E h => h.1.trans hl.symm) fun A outer s H vs Q E hr h => ⟨_, body A outer s H E hr, ?_⟩
  obtain ⟨hlen, Pp, ds, FA, St0, hio, h⟩ := h
  have ld : ds.length = vs.length := by simpa using St0.len
  have lps : ps.length ≤ N.length := by
    have := congrArg List.length S.pre
    rw [List.length_take] at this
    omega
  have lvn : vs.length ≤ n := by omega
  refine ⟨Pp, ds.map some ++ List.replicate (n - ds.length) none, FA, ⟨St0.pin, St0.fin, St0.dj, fun i d e => ?_, ?_, St0.tab⟩, ?_⟩
  · by_cases hi : i < ds.length
    · rw [List.getElem?_append_left (by simpa using hi)] at e
      obtain ⟨v, e1, r⟩ := St0.rel i d e
      refine ⟨v, ?_, r⟩
      unfold L2.start
      rw [List.getElem?_append_left (by rw [List.length_map]; omega)]
      exact e1
    · rw [List.getElem?_append_right (by simpa using hi), List.getElem?_replicate] at e
      split at e <;> cases e
  · unfold L2.start
    simp only [List.length_append, List.length_map, List.length_replicate]
    omega
  have back : ∀ {σ' : L2.St} {P' : AS} {H' : Hp} {FE' : FP} {ρ' : Ev}, Stt K P' H' ρ' σ' FE' → Kp (kpOf io) (L2.start N vs) σ' → Stt K P' H' (outsOf io ρ') (vs.map some) FE' := by
    intro σ' P' H' FE' ρ' S' kk
    refine ⟨S'.pin, S'.fin, S'.dj, fun i d e => ?_, ?_, S'.tab⟩
    · obtain ⟨h1, h2⟩ := outsOf_get e
      obtain ⟨v, e1, r⟩ := S'.rel i d h2
      refine ⟨v, ?_, r⟩
      rw [kk.2 i (kpOf_in h1)] at e1
      unfold L2.start at e1
      have hi : i < vs.length := by
        have := (List.getElem?_eq_some_iff.mp h1).1
        omega
      rw [List.getElem?_append_left (by simpa using hi)] at e1
      exact e1
    · rw [outsOf_len, List.length_map, hlen]
  unfold semOf at h
  cases e : g (ds.map some ++ List.replicate (n - ds.length) none) with
  | nx ρ' => simp only [e] at h; exact fun σ' P' H' FE' S' t k' => h .non P' H' FE' E_ (back S' k') ⟨.non, fun b z => z.elim⟩ (t.less fun b z => z.elim id False.elim)
  | rt d ρ' => simp only [e] at h; exact fun v σ' P' H' FE' F' S' T' t k' => h v P' H' FE' F' (back S' k') T' t
  | exc x ρ' => simp only [e] at h; exact fun cls dx σ' P' H' FE' S' t k' r => h cls dx P' H' FE' (back S' k') t r
  | bk ρ' => simp only [e] at h
  | ct ρ' => simp only [e] at h
  | stk => simp only [e] at h
theorem fn_ok {x qual : Str} {st : Stmt} {f : Addr} {fd : FuncData} {N ps : List Str} {k n : Nat} {io : List Bool} {g : Ev → RS} (F : Fun K x qual st f fd) (S : FnScope N ps (defScope st)) (hl : ps.length = io.length) (hn : N.length = n)
    (body : ∀ (cdv : Value) (A : Around) (outer : List Env) (s : Shared) (H : Hp) (E : XK), Room k (A.deeper (envOfC qual (defScope st) s.heap.objs.size f cdv)) →
      DSs (cxOf (L2N.CX P w) P w K mg base N qual (defScope st) f cdv A outer s H E) RX (fun cls d _ H => E cls d H) (kpOf io) (defBody st) g) :
    FnOk P w K mg base (L2N.CX P w) (k + 1) f fd ps (spD K RX io (semOf io n g)) := by
  obtain ⟨oc, od, kV, doc, pm, an, cdv, ct, osl, rfl, lk, hcd⟩ := F.ex
  exact fn_okL lk hcd S hl hn (body cdv)
end
def callR (r : RF) (ρ : Ev) (upd : Ev → Ev) : R D := match r with
  | .rt d outs => .ok d (upd outs)
  | .exc x outs => .exc x (upd outs)
  | .stk => .stk
def fCall (n : Nat) (sem : Fn) (fa : Ev → R (List D)) : Ev → R D := fun ρ => (fa ρ).bind fun ds ρ1 => if ds.length = n then callR (sem (frzs ds)) ρ1 fun _ => ρ1 else .stk
def hd0 (outs : Ev) : Option D := match outs with
  | o :: _ => o
  | [] => none
/-- the first argument is a thing of one's own, at slot j -/
def fCallIO (j n : Nat) (sem : Fn) (fa : Ev → R (List D)) : Ev → R D := fun ρ => match ρ[j]? with
  | some (some _) => (fa ρ).bind fun ds ρ1 => (match ρ1[j]? with
    | some (some d0) => if ds.length + 1 = n then callR (sem (d0 :: frzs ds)) ρ1 fun outs => ρ1.set j (hd0 outs) else .stk
    | _ => .stk)
  | _ => .stk
section
variable {X : Cx} {RX : RXR} {W : WX} {k n : Nat} {f : Addr} {fd : FuncData} {ps : List Str} {sem : Fn} {x : Str} {p pos : Pos} {e : Expr} {es : List Expr} {fa : Ev → R (List D)}
omit [TabC] in
theorem frzs_len : ∀ ds : List D, (frzs ds).length = ds.length
  | [] => rfl
  | _ :: ds => congrArg (· + 1) (frzs_len ds)
theorem de_call (F : FnOk X.prog X.w X.K X.mg X.base (L2N.CX X.prog X.w) k f fd ps (spD X.K RX (List.replicate n false) sem)) (hr : Room k X.A) (hg : Gl X x) (hm : X.mg x = some (.ref f)) (hk : PySem.W.keepIn X.K (.ref f) = true) (hb : Binds X.K fd ps []) (tk : L2N.Takes X W)
    (ha : DA X RX W (e :: es) fa) (hdb : (x == ("__debug__" : Str)) = false := by decide)
    (he : starEach (e :: es) X.env = (false, eval e X.env) :: starEach es X.env := by rfl) (hpl : (backTo pos (starEach es X.env)).any (·.1) = false := by rfl) : DE X RX W (.Call (.Name x p) (e :: es) [] pos) (fCall n sem fa) := by
  refine pe_imp (pe_callS F hr hg hm hk hb (fun σ => L2N.passAt tk σ) ha hdb he hpl) fun σ H Q q => ?_
  obtain ⟨P, ρ, FE, S, q⟩ := q
  refine ⟨P, ρ, FE, S, ?_⟩
  unfold fCall at q
  cases e1 : fa ρ with
  | exc x ρ1 => simp only [e1, R.bind] at q; exact q
  | stk => simp only [e1, R.bind] at q
  | ok ds ρ1 =>
    simp only [e1, R.bind] at q
    intro vs P1 H1 FE1 F1 S1 T1 t1
    by_cases hl : ds.length = n
    · simp only [if_pos hl] at q
      have lv := rls_len T1.rl
      have Sc := S1.give fun b z => ⟨(T1.own b z).1, (T1.own b z).2.2⟩
      refine ⟨by rw [List.length_replicate]; omega, fun b => P1 b ∨ F1 b, frzs ds, fun _ => E_, ⟨Sc.pin, fun i b z => z.elim, fun i j b z => z.elim, fun i d e2 => ?_, ?_, Sc.tab⟩, fun i _ b z => z.elim, ?_⟩
      · rw [List.getElem?_map] at e2
        cases e3 : (frzs ds)[i]? with
        | none => rw [e3] at e2; cases e2
        | some d' =>
          rw [e3] at e2; cases e2
          obtain ⟨v, e4, r⟩ := rls_get (rls_frz (z := true) (F' := E_) T1.rl (fun b z => Or.inl z) fun b z => Or.inr z) e3
          exact ⟨v, by rw [List.getElem?_map, e4]; rfl, r⟩
      · rw [List.length_map, List.length_map, frzs_len]; exact lv
      · cases e2 : sem (frzs ds) with
        | stk => simp only [e2, callR] at q
        | rt d outs =>
          simp only [e2, callR] at q
          intro v P2 H2 FA' F2 S2 T2 t2
          have n2 : New (fun b => P1 b ∨ F1 b) H1 P2 H2 F2 := ⟨fun b o e => t2.frame b o e fun ⟨_, z⟩ => z, t2.alive, fun _ => S2.tab, t2.mono, fun b z => (t2.back b z).imp id fun w => ⟨w.elim (fun ⟨_, z⟩ => z.elim) id, S2.pin b z⟩, fun b z => ⟨(t2.sub b (.inr z)).elim (fun ⟨_, z⟩ => z.elim) id, (T2.own b z).1, (T2.own b z).2.1⟩⟩
          exact q v P2 H2 FE1 F2 (n2.stt Sc) (n2.tmp Sc T2.rl) (t1.give.trans n2.tr)
        | exc xx outs =>
          simp only [e2, callR] at q
          intro cls dx P2 H2 FA' S2 t2 r
          have n2 : New (fun b => P1 b ∨ F1 b) H1 P2 H2 E_ := ⟨fun b o e => t2.frame b o e fun ⟨_, z⟩ => z, t2.alive, fun _ => S2.tab, t2.mono, fun b z => (t2.back b z).imp id fun w => ⟨w.elim (fun ⟨_, z⟩ => z.elim) id, S2.pin b z⟩, fun b z => z.elim⟩
          exact q cls dx P2 H2 FE1 (n2.stt Sc) (t1.give.trans n2.tr.less') r
    · simp only [if_neg hl] at q
theorem de_callIO {j : Nat} {m : Nat} (F : FnOk X.prog X.w X.K X.mg X.base (L2N.CX X.prog X.w) k f fd ps (spD X.K RX (true :: List.replicate m false) sem)) (hr : Room k X.A) (hg : Gl X x) (hm : X.mg x = some (.ref f)) (hk : PySem.W.keepIn X.K (.ref f) = true) (hb : Binds X.K fd ps []) (tk : L2N.Takes X W)
    (hv : PE X e (tVar j)) (ha : DA X RX W es fa) (hdb : (x == ("__debug__" : Str)) = false := by decide)
    (he : starEach (e :: es) X.env = (false, eval e X.env) :: starEach es X.env := by rfl) (hpl : (backTo pos (starEach es X.env)).any (·.1) = false := by rfl) : DE X RX W (.Call (.Name x p) (e :: es) [] pos) (fCallIO j (m + 1) sem fa) := by
  refine pe_imp (pe_callS F hr hg hm hk hb (fun σ => L2N.passAt tk σ) (pa_cons hv ha he) hdb he hpl) fun σ H Q q => ?_
  obtain ⟨P, ρ, FE, S, q⟩ := q
  unfold fCallIO at q
  cases e0 : ρ[j]? with
  | none => simp only [e0] at q
  | some o =>
    cases o with
    | none => simp only [e0] at q
    | some dd =>
    simp only [e0] at q
    obtain ⟨v0, ev0, _⟩ := S.rel j dd e0
    refine ⟨v0, ev0, P, ρ, FE, S, ?_⟩
    cases e1 : fa ρ with
    | exc x ρ1 => simp only [e1, R.bind] at q; exact q
    | stk => simp only [e1, R.bind] at q
    | ok ds ρ1 =>
      simp only [e1, R.bind] at q
      intro vs P1 H1 FE1 F1 S1 T1 t1
      cases e5 : ρ1[j]? with
      | none => simp only [e5] at q
      | some o =>
        cases o with
        | none => simp only [e5] at q
        | some d0 =>
        simp only [e5] at q
        by_cases hl : ds.length + 1 = m + 1
        · simp only [if_pos hl] at q
          have lv := rls_len T1.rl
          have Sc := S1.give fun b z => ⟨(T1.own b z).1, (T1.own b z).2.2⟩
          obtain ⟨v0', ev0', r0⟩ := Sc.rel j d0 e5
          rw [ev0] at ev0'; cases ev0'
          have nE : ∀ b, U (fun i b => i = 0 ∧ FE1 j b) b → FE1 j b := fun b ⟨_, z⟩ => z.2
          have Stc : Stt X.K (fun b => P1 b ∨ F1 b) H1 ((d0 :: frzs ds).map some) ((v0 :: vs).map some) (fun i b => i = 0 ∧ FE1 j b) := by
            refine ⟨Sc.pin, fun i b z => Sc.fin j b z.2, fun i i' b z w => z.1.trans w.1.symm, fun i d e2 => ?_, ?_, Sc.tab⟩
            · cases i with
              | zero =>
                simp only [List.map_cons, List.getElem?_cons_zero] at e2 ⊢
                cases e2
                exact ⟨v0, rfl, rl_mono r0 (fun _ q => q) (fun _ _ e _ _ => e) fun b z => by first | exact ⟨rfl, z⟩ | exact ⟨trivial, z⟩⟩
              | succ i =>
                simp only [List.map_cons, List.getElem?_cons_succ] at e2 ⊢
                rw [List.getElem?_map] at e2
                cases e3 : (frzs ds)[i]? with
                | none => rw [e3] at e2; cases e2
                | some d' =>
                  rw [e3] at e2; cases e2
                  obtain ⟨v, e4, r⟩ := rls_get (rls_frz (z := true) (F' := E_) T1.rl (fun b z => Or.inl z) fun b z => Or.inr z) e3
                  exact ⟨v, by rw [List.getElem?_map, e4]; rfl, rl_mono r (fun _ q => q) (fun _ _ e _ _ => e) fun b z => z.elim⟩
            · simp only [List.length_map, List.length_cons, frzs_len]; omega
          -- the state behind the call
          have after : ∀ {P2 : AS} {H2 : Hp} {FA' : FP} {F2 : AS} {outs : Ev}, Stt X.K P2 H2 outs ((v0 :: vs).map some) FA' → Tr (fun b => P1 b ∨ F1 b) H1 (U fun i b => i = 0 ∧ FE1 j b) P2 H2 (fun b => U FA' b ∨ F2 b) → (∀ b, F2 b → ¬ U FA' b) →
              Stt X.K P2 H2 (ρ1.set j (hd0 outs)) σ (fun i b => (i = j ∧ FA' 0 b) ∨ (i ≠ j ∧ FE1 i b)) ∧ Tr P H (U FE) P2 H2 (fun b => U (fun i b => (i = j ∧ FA' 0 b) ∨ (i ≠ j ∧ FE1 i b)) b ∨ F2 b) ∧
                ∀ b, F2 b → ¬ U (fun i b => (i = j ∧ FA' 0 b) ∨ (i ≠ j ∧ FE1 i b)) b := by
            intro P2 H2 FA' F2 outs S2 t2 hd2
            have keep : ∀ b o, H1 b = some o → ¬ FE1 j b → NT o → H2 b = some o := fun b o e n => t2.frame b o e fun z => n (nE b z)
            have new0 : ∀ b, FA' 0 b → FE1 j b ∨ H1 b = none := fun b z => (t2.sub b (.inl ⟨0, z⟩)).imp (nE b) id
            have newF : ∀ b, F2 b → FE1 j b ∨ H1 b = none := fun b z => (t2.sub b (.inr z)).imp (nE b) id
            refine ⟨⟨S2.pin, fun i b z => ?_, fun i i' b z w => ?_, fun i d e2 => ?_, by simpa using S1.len, S2.tab⟩, ⟨fun b o e n nt => ?_, fun b z => t2.mono b (.inl (t1.mono b z)), fun b z => ?_, fun b z => ?_, fun b z => t2.alive b (t1.alive b z)⟩, fun b z w => ?_⟩
            · rcases z with z | z
              · exact S2.fin 0 b z.2
              · obtain ⟨h1, h2⟩ := Sc.fin i b z.2
                refine ⟨t2.alive b h1, fun w => ?_⟩
                rcases t2.back b w with w | w | w
                · exact h2 w
                · exact z.1 (S1.dj i j b z.2 (nE b w))
                · exact h1 w
            · rcases z with z | z <;> rcases w with w | w
              · exact z.1.trans w.1.symm
              · exact ((new0 b z.2).elim (fun q => w.1 (S1.dj _ _ b w.2 q)) fun q => (S1.fin _ b w.2).1 q).elim
              · exact ((new0 b w.2).elim (fun q => z.1 (S1.dj _ _ b z.2 q)) fun q => (S1.fin _ b z.2).1 q).elim
              · exact S1.dj i i' b z.2 w.2
            · by_cases hi : i = j
              · subst hi
                have hlt : i < ρ1.length := (List.getElem?_eq_some_iff.mp e5).1
                rw [List.getElem?_set_self hlt] at e2
                have e3 : hd0 outs = some d := Option.some.inj e2
                cases outs with
                | nil => exact (nomatch (show (none : Option D) = some d from e3))
                | cons o os =>
                  obtain ⟨v, e4, r⟩ := S2.rel 0 d (by show some o = some (some d); rw [show o = some d from e3])
                  simp only [List.map_cons, List.getElem?_cons_zero] at e4
                  cases e4
                  exact ⟨v0, ev0, rl_mono r (fun _ q => q) (fun _ _ e _ _ => e) fun b z => .inl ⟨rfl, z⟩⟩
              · rw [List.getElem?_set_ne (Ne.symm hi)] at e2
                obtain ⟨v, e4, r⟩ := S1.rel i d e2
                refine ⟨v, e4, rl_mono r (fun b z => t2.mono b (.inl z)) (fun b o e q => keep b o e fun z => ?_) fun b z => .inr ⟨hi, z⟩⟩
                rcases q rfl with q | q
                · exact (S1.fin j b z).2 q
                · exact hi (S1.dj i j b q z)
            · refine t2.frame b o (t1.frame b o e n nt) (fun z => ?_) nt
              exact (t1.sub b (.inl ⟨j, nE b z⟩)).elim n fun q => by rw [e] at q; cases q
            · rcases t2.back b z with z | z | z
              · rcases z with z | z
                · exact t1.back b z
                · exact (t1.sub b (.inr z)).elim (fun q => .inr (.inl q)) fun q => .inr (.inr q)
              · exact (t1.sub b (.inl ⟨j, nE b z⟩)).elim (fun q => .inr (.inl q)) fun q => .inr (.inr q)
              · refine .inr (.inr ?_)
                cases e : H b with
                | none => rfl
                | some o => exact absurd z (t1.alive b (by rw [e]; simp))
            · have up : FE1 j b ∨ H1 b = none → U FE b ∨ H b = none := fun q => q.elim (fun q => t1.sub b (.inl ⟨j, q⟩)) fun q => by
                refine .inr ?_
                cases e : H b with
                | none => rfl
                | some o => exact absurd q (t1.alive b (by rw [e]; simp))
              rcases z with ⟨i, z | z⟩ | z
              · exact up (new0 b z.2)
              · exact t1.sub b (.inl ⟨i, z.2⟩)
              · exact up (newF b z)
            · obtain ⟨i, w | w⟩ := w
              · exact hd2 b z ⟨0, w.2⟩
              · exact (newF b z).elim (fun q => w.1 (S1.dj _ _ b w.2 q)) fun q => (S1.fin _ b w.2).1 q
          refine ⟨by simp only [List.length_cons, List.length_replicate]; omega, fun b => P1 b ∨ F1 b, d0 :: frzs ds, _, Stc, fun i hi b z => ?_, ?_⟩
          · rw [z.1] at hi; exact hi rfl
          · cases e2 : sem (d0 :: frzs ds) with
            | stk => simp only [e2, callR] at q
            | rt d outs =>
              simp only [e2, callR] at q
              intro v P2 H2 FA' F2 S2 T2 t2
              obtain ⟨A1, A2, A3⟩ := after S2 t2 fun b z => (T2.own b z).2.2
              exact q v P2 H2 _ F2 A1 ⟨T2.rl, fun b z => ⟨(T2.own b z).1, (T2.own b z).2.1, A3 b z⟩⟩ A2
            | exc xx outs =>
              simp only [e2, callR] at q
              intro cls dx P2 H2 FA' S2 t2 r
              obtain ⟨A1, A2, A3⟩ := after (F2 := E_) S2 (t2.less fun b z => z.elim id False.elim) fun b z => z.elim
              exact q cls dx P2 H2 _ A1 A2.less' r
        · simp only [if_neg hl] at q
end
end Hap
namespace Hap
open PySem PySem.Spec PyProof.Rows L2
variable [TabC]
def asB (d : D) (ρ : Ev) : R Bool := match d with
  | .bl b => .ok b ρ
  | _ => .stk
def fTb (f : Ev → R D) : Ev → R Bool := fun ρ => (f ρ).bind asB
def fTv (f : Ev → Option D) : Ev → R Bool := fun ρ => match f ρ with
  | some (.bl b) => .ok b ρ
  | _ => .stk
def fAnd (f g : Ev → R Bool) : Ev → R Bool := fun ρ => (f ρ).bind fun b ρ1 => if b = true then g ρ1 else .ok false ρ1
def fOr (f g : Ev → R Bool) : Ev → R Bool := fun ρ => (f ρ).bind fun b ρ1 => if b = true then .ok true ρ1 else g ρ1
def fNot (f : Ev → R Bool) : Ev → R Bool := fun ρ => (f ρ).bind fun b ρ1 => .ok (!b) ρ1
/-- and, or, not as values -/
def fAndD (f g : Ev → R D) : Ev → R D := fun ρ => (f ρ).bind fun d ρ1 => match d with
  | .bl b => if b = true then g ρ1 else .ok (.bl false) ρ1
  | _ => .stk
def fOrD (f g : Ev → R D) : Ev → R D := fun ρ => (f ρ).bind fun d ρ1 => match d with
  | .bl b => if b = true then .ok (.bl true) ρ1 else g ρ1
  | _ => .stk
def fNotD (f : Ev → R D) : Ev → R D := fun ρ => (f ρ).bind fun d ρ1 => match d with
  | .bl b => .ok (.bl (!b)) ρ1
  | _ => .stk
def fIfE (c : Ev → R Bool) (f g : Ev → R D) : Ev → R D := fun ρ => (c ρ).bind fun b ρ1 => if b = true then f ρ1 else g ρ1
section
variable {K : PySem.W.Frag} {RX : RXR} {W : WX} {σ : L2.St} {H : Hp}
theorem t_val {f : Ev → R D} {Q : Bool → Hp → Prop} (h : tT K RX W (fTb f) σ H Q) : tE K RX W f σ H (fun x H' => ∃ k, x = .bl k ∧ Q k H') := by
  obtain ⟨P, ρ, FE, S, h⟩ := h
  refine ⟨P, ρ, FE, S, ?_⟩
  unfold fTb at h
  cases e : f ρ with
  | ok d ρ1 =>
    simp only [e, R.bind] at h
    cases d with
    | bl b =>
      simp only [asB] at h
      intro v P1 H1 FE1 F1 S1 T1 t1
      exact ⟨b, rl_bl T1.rl, h P1 H1 FE1 S1 t1.less'⟩
    | _ => simp only [asB] at h
  | exc x ρ1 => simp only [e, R.bind] at h; exact h
  | stk => simp only [e, R.bind] at h
theorem t_valV {f : Ev → Option D} {Q : Bool → Hp → Prop} (h : tT K RX W (fTv f) σ H Q) : tV K f σ H (fun x H' => ∃ k, x = .bl k ∧ Q k H') := by
  obtain ⟨P, ρ, FE, S, h⟩ := h
  refine ⟨P, ρ, FE, S, ?_⟩
  unfold fTv at h
  cases e : f ρ with
  | none => simp only [e] at h
  | some d =>
    cases d with
    | bl b =>
      simp only [e] at h
      intro v P1 H1 n1 r1
      exact ⟨b, rl_bl r1, h P1 H1 FE (n1.stt S) n1.tr.less'⟩
    | _ => simp only [e] at h
end
section
variable {X : Cx} {RX : RXR} {W : WX} {a b c : Expr} {pos : Pos}
abbrev DW (X : Cx) (RX : RXR) (W : WX) (e : Expr) (f : Ev → R Bool) : Prop := PW X e (tT X.K RX W f)
theorem dt_val {f : Ev → R D} (h : DE X RX W a f) (he : ∀ whole, isTrue a X.env whole = (do let v ← whole; standAt a.pos; holding [v] (truthy v)) := by intro _; rfl) : DT X RX W a (fTb f) :=
  pt_imp (pt_val h he) fun σ H Q q => t_val q
theorem dt_valV {f : Ev → Option D} (h : DV X a f) (he : ∀ whole, isTrue a X.env whole = (do let v ← whole; standAt a.pos; holding [v] (truthy v)) := by intro _; rfl) : DT X RX W a (fTv f) :=
  pt_imp (pt_val h he) fun σ H Q q => t_valV q
theorem dt_cmpV {op : CmpOp} {r : R2} {g : D → D → Option D} {f k : Ev → Option D} (ho : OpR X (compareOp op) r) (hv : VOp2 X.K r g) (ha : DV X a f) (hb : DV X b k) (hm : behindInMarks op b = false) : DT X RX W (.Compare a [op] [b] pos) (fTv (vOp2 g f k)) :=
  pt_imp (pt_cmpR ho ha hb hm) fun σ H Q q => v_op2 hv (t_valV q)
theorem dt_cmpEV {op : CmpOp} {r : R2} {g : D → D → Option D} {f : Ev → R D} {k : Ev → Option D} (ho : OpR X (compareOp op) r) (hv : VOp2 X.K r g) (ha : DE X RX W a f) (hb : DV X b k) (hm : behindInMarks op b = false) : DT X RX W (.Compare a [op] [b] pos) (fTb (fOp2V g f k)) :=
  pt_imp (pt_cmpR ho ha hb hm) fun σ H Q q => e_op2V hv (t_val q)
theorem dv_cmp {op : CmpOp} {r : R2} {g : D → D → Option D} {f k : Ev → Option D} (ho : OpR X (compareOp op) r) (hv : VOp2 X.K r g) (ha : DV X a f) (hb : DV X b k) (hm : behindInMarks op b = false) : DV X (.Compare a [op] [b] pos) (vOp2 g f k) :=
  pe_imp (pe_cmpR ho ha hb hm) fun σ H Q q => v_op2 hv q
theorem de_cmpEV {op : CmpOp} {r : R2} {g : D → D → Option D} {f : Ev → R D} {k : Ev → Option D} (ho : OpR X (compareOp op) r) (hv : VOp2 X.K r g) (ha : DE X RX W a f) (hb : DV X b k) (hm : behindInMarks op b = false) : DE X RX W (.Compare a [op] [b] pos) (fOp2V g f k) :=
  pe_imp (pe_cmpR ho ha hb hm) fun σ H Q q => e_op2V hv q
theorem de_op {op : Operator} {r : R2} {g : D → D → Option D} {f k : Ev → R D} (ho : OpR X (binaryOp op) r) (hv : VOp2 X.K r g) (ha : DE X RX W a f) (hb : DE X RX W b k) : DE X RX W (.BinOp a op b pos) (fOp2 g f k) :=
  pe_imp (pe_op ho ha hb) fun σ H Q q => e_op2 hv q
theorem dv_op {op : Operator} {r : R2} {g : D → D → Option D} {f k : Ev → Option D} (ho : OpR X (binaryOp op) r) (hv : VOp2 X.K r g) (ha : DV X a f) (hb : DV X b k) : DV X (.BinOp a op b pos) (vOp2 g f k) :=
  pe_imp (pe_op ho ha hb) fun σ H Q q => v_op2 hv q
theorem dv_un {op : UnaryOp} {r : V → Hp → VK → Prop} {g : D → Option D} {f : Ev → Option D} (ho : UnR X (unaryOp op) r) (hv : VOp1 X.K r g) (ha : DV X a f) : DV X (.UnaryOp op a pos) (vOp1 g f) :=
  pe_imp (pe_un ho ha) fun σ H Q q => v_op1 hv q
theorem de_ix {r : R2} {g : D → D → Option D} {f k : Ev → R D} (ho : IxR X r) (hv : VOp2 X.K r g) (ha : DE X RX W a f) (hb : DE X RX W b k) (hs : PlainIx b) : DE X RX W (.Subscript a b pos) (fOp2 g f k) :=
  pe_imp (pe_ix ho ha hb hs) fun σ H Q q => e_op2 hv q
theorem de_callB {x : Str} {p : Pos} {e : Expr} {es : List Expr} {r : List V → Hp → VK → Prop} {g : List D → Option D} {f : Ev → R (List D)} (h : PE X (.Call (.Name x p) (e :: es) [] pos) (tCB r (tA X.K RX W f))) (hv : VOpN X.K r g) : DE X RX W (.Call (.Name x p) (e :: es) [] pos) (fOpN g f) :=
  pe_imp h fun σ H Q q => e_opN hv q
theorem dv_callB {x : Str} {p : Pos} {e : Expr} {es : List Expr} {r : List V → Hp → VK → Prop} {g : List D → Option D} {f : Ev → Option (List D)} (h : PE X (.Call (.Name x p) (e :: es) [] pos) (tCB r (tAV X.K f))) (hv : VOpN X.K r g) : DV X (.Call (.Name x p) (e :: es) [] pos) (vOpN g f) :=
  pe_imp h fun σ H Q q => v_opN hv q
theorem dw_and1 {f : Ev → R Bool} (h : DT X RX W a f) : DW X RX W (.BoolOp .And [a] pos) f := pw_and1 h
theorem dw_or1 {f : Ev → R Bool} (h : DT X RX W a f) : DW X RX W (.BoolOp .Or [a] pos) f := pw_or1 h
theorem dw_and {rest : List Expr} {f g : Ev → R Bool} (h : DT X RX W a f) (k : DW X RX W (.BoolOp .And (b :: rest) pos) g) : DW X RX W (.BoolOp .And (a :: b :: rest) pos) (fAnd f g) := by
  refine pw_imp (pw_and h k) fun σ H Q q => ?_
  obtain ⟨P, ρ, FE, S, q⟩ := q
  refine ⟨P, ρ, FE, S, ?_⟩
  unfold fAnd at q
  cases e : f ρ with
  | ok d ρ1 =>
    simp only [e, R.bind] at q
    intro P1 H1 FE1 S1 t1
    cases d with
    | false => simp only [if_neg Bool.false_ne_true] at q ⊢; exact q P1 H1 FE1 S1 t1
    | true =>
      simp only [if_pos] at q ⊢
      refine ⟨P1, ρ1, FE1, S1, ?_⟩
      cases e2 : g ρ1 with
      | ok b ρ2 => simp only [e2] at q; exact fun P2 H2 FE2 S2 t2 => q P2 H2 FE2 S2 (t1.trans t2)
      | exc x ρ2 => simp only [e2] at q; exact fun cls dx P2 H2 FE2 S2 t2 r => q cls dx P2 H2 FE2 S2 (t1.trans t2) r
      | stk => simp only [e2] at q
  | exc x ρ1 => simp only [e, R.bind] at q; exact q
  | stk => simp only [e, R.bind] at q
theorem dw_or {rest : List Expr} {f g : Ev → R Bool} (h : DT X RX W a f) (k : DW X RX W (.BoolOp .Or (b :: rest) pos) g) : DW X RX W (.BoolOp .Or (a :: b :: rest) pos) (fOr f g) := by
  refine pw_imp (pw_or h k) fun σ H Q q => ?_
  obtain ⟨P, ρ, FE, S, q⟩ := q
  refine ⟨P, ρ, FE, S, ?_⟩
  unfold fOr at q
  cases e : f ρ with
  | ok d ρ1 =>
    simp only [e, R.bind] at q
    intro P1 H1 FE1 S1 t1
    cases d with
    | true => simp only [if_pos] at q ⊢; exact q P1 H1 FE1 S1 t1
    | false =>
      simp only [if_neg Bool.false_ne_true] at q ⊢
      refine ⟨P1, ρ1, FE1, S1, ?_⟩
      cases e2 : g ρ1 with
      | ok b ρ2 => simp only [e2] at q; exact fun P2 H2 FE2 S2 t2 => q P2 H2 FE2 S2 (t1.trans t2)
      | exc x ρ2 => simp only [e2] at q; exact fun cls dx P2 H2 FE2 S2 t2 r => q cls dx P2 H2 FE2 S2 (t1.trans t2) r
      | stk => simp only [e2] at q
  | exc x ρ1 => simp only [e, R.bind] at q; exact q
  | stk => simp only [e, R.bind] at q
theorem dt_not {f : Ev → R Bool} (h : DT X RX W a f) : DT X RX W (.UnaryOp .Not a pos) (fNot f) := by
  refine pt_imp (pt_not h) fun σ H Q q => ?_
  obtain ⟨P, ρ, FE, S, q⟩ := q
  refine ⟨P, ρ, FE, S, ?_⟩
  unfold fNot at q
  cases e : f ρ with
  | ok d ρ1 => simp only [e, R.bind] at q; exact q
  | exc x ρ1 => simp only [e, R.bind] at q; exact q
  | stk => simp only [e, R.bind] at q
theorem de_one {op} {f : Ev → R D} (h : DE X RX W a f) : DE X RX W (.BoolOp op [a] pos) f := pe_one h
theorem de_and {rest : List Expr} {f g : Ev → R D} (h : DE X RX W a f) (k : DE X RX W (.BoolOp .And (b :: rest) pos) g) : DE X RX W (.BoolOp .And (a :: b :: rest) pos) (fAndD f g) := by
  refine pe_imp (pe_and h k) fun σ H Q q => ?_
  obtain ⟨P, ρ, FE, S, q⟩ := q
  refine ⟨P, ρ, FE, S, ?_⟩
  unfold fAndD at q
  cases e : f ρ with
  | ok d ρ1 =>
    simp only [e, R.bind] at q
    intro v P1 H1 FE1 F1 S1 T1 t1
    cases d with
    | bl c =>
      refine ⟨c, rl_bl T1.rl, ?_⟩
      cases c with
      | false => simp only [if_neg Bool.false_ne_true] at q ⊢; exact q _ P1 H1 FE1 E_ S1 ⟨.bl, fun b z => z.elim⟩ (t1.less'.less fun b z => z.elim id False.elim)
      | true =>
        simp only [if_pos] at q ⊢
        refine ⟨P1, ρ1, FE1, S1, ?_⟩
        cases e2 : g ρ1 with
        | ok b ρ2 => simp only [e2] at q; exact fun w P2 H2 FE2 F2 S2 T2 t2 => q w P2 H2 FE2 F2 S2 T2 (t1.less'.trans t2)
        | exc x ρ2 => simp only [e2] at q; exact fun cls dx P2 H2 FE2 S2 t2 r => q cls dx P2 H2 FE2 S2 (t1.less'.trans t2) r
        | stk => simp only [e2] at q
    | _ => simp only at q
  | exc x ρ1 => simp only [e, R.bind] at q; exact q
  | stk => simp only [e, R.bind] at q
theorem de_not {f : Ev → R D} (h : DE X RX W a f) : DE X RX W (.UnaryOp .Not a pos) (fNotD f) := by
  refine pe_imp (pe_not h) fun σ H Q q => ?_
  obtain ⟨P, ρ, FE, S, q⟩ := q
  refine ⟨P, ρ, FE, S, ?_⟩
  unfold fNotD at q
  cases e : f ρ with
  | ok d ρ1 =>
    simp only [e, R.bind] at q
    intro v P1 H1 FE1 F1 S1 T1 t1
    cases d with
    | bl c => exact ⟨c, rl_bl T1.rl, q _ P1 H1 FE1 E_ S1 ⟨.bl, fun b z => z.elim⟩ (t1.less'.less fun b z => z.elim id False.elim)⟩
    | _ => simp only at q
  | exc x ρ1 => simp only [e, R.bind] at q; exact q
  | stk => simp only [e, R.bind] at q
end
end Hap
namespace Hap
open PySem PySem.Spec PyProof.Rows L2
variable [TabC]
def gI2 (f : Int → Int → Int) (d e : D) : Option D := match d, e with
  | .int i, .int j => some (.int (f i j))
  | _, _ => none
def gC2 (C : Int → Int → Prop) [∀ i j, Decidable (C i j)] (f : Int → Int → Int) (d e : D) : Option D := match d, e with
  | .int i, .int j => if C i j then some (.int (f i j)) else none
  | _, _ => none
def CDivX (_ j : Int) : Prop := j ≠ 0 ∧ j.natAbs < 18446744073709551616
instance (i j : Int) : Decidable (CDivX i j) := by unfold CDivX; infer_instance
omit [TabC] in
theorem op_fdivX {X : Cx} : OpR X (binaryOp .FloorDiv) (rI CDivX fun i j => .int (i.fdiv j)) := opI fun _ j _ _ _ _ _ hc q => by
  have h : j.natAbs.log2 < 9000 := Nat.lt_of_lt_of_le (PySem.Flt.log2_lt_of (k := 64) (by decide) hc.2) (by decide)
  exact floordiv_int hc.1 q (.inl (PyProof.noPylong_of_log2 h))
instance (i j : Int) : Decidable (CPow i j) := by unfold CPow; infer_instance
instance (i j : Int) : Decidable (CMul i j) := by unfold CMul; infer_instance
section
variable {K : PySem.W.Frag}
theorem vI2 {f : Int → Int → Int} : VOp2 K (rI0 fun i j => .int (f i j)) (gI2 f) := by
  intro P H d e v w x Q pin r1 r2 g h
  cases r1 <;> cases r2 <;> cases g
  exact ⟨_, _, rfl, rfl, h _ P H E_ New.refl .int⟩
theorem vC2 {C : Int → Int → Prop} [∀ i j, Decidable (C i j)] {f : Int → Int → Int} : VOp2 K (rI C fun i j => .int (f i j)) (gC2 C f) := by
  intro P H d e v w x Q pin r1 r2 g h
  cases r1 <;> cases r2 <;> simp only [gC2] at g <;> try cases g
  rename_i i j
  by_cases c : C i j
  · rw [if_pos c] at g; cases g
    exact ⟨_, _, rfl, rfl, c, h _ P H E_ New.refl .int⟩
  · rw [if_neg c] at g; cases g
def gU1 (f : Int → Int) (d : D) : Option D := match d with
  | .int i => some (.int (f i))
  | _ => none
theorem vU1 {f : Int → Int} : VOp1 K (rU fun i => .int (f i)) (gU1 f) := by
  intro P H d v x Q pin r1 g h
  cases r1 <;> cases g
  exact ⟨_, rfl, h _ P H E_ New.refl .int⟩
omit [TabC] in
/-- the lists' items, none of one's own -/
theorem lst_read {z : Bool} {P : AS} {H : Hp} {o : Bool} {ds : List D} {v : V} {F : AS} (r : Rl z K P H (.lst o ds) v F) : ∃ p vs, v = .ref p ∧ H p = some (.lst vs) ∧ Rls false K P H ds vs E_ := by
  cases r with
  | lstO e f s rs => exact ⟨_, _, rfl, e, rls_view rs⟩
  | lstI e p i rs => exact ⟨_, _, rfl, e, rls_view rs⟩
theorem new_lst {P : AS} {H : Hp} {p : Addr} {ds : List D} {vs : List V} (hp : H p = none) (pin : ∀ b, P b → H b ≠ none) (i : isImms ds = true) (rs : Rls false K P H ds vs E_) :
    New P H P (upd H p (.lst vs)) (fun b => b = p) ∧ Rl true K P (upd H p (.lst vs)) (.lst true ds) (.ref p) (fun b => b = p) :=
  ⟨New.lst hp pin, .lstO (F' := E_) upd_same (fun _ => rfl) (fun b z => z.elim) (rls_mono (z := true) (F := E_) (rls_imm rs i) (fun _ q => q) (fun b o e _ _ => by rw [upd_ne (ne_of_none e hp)]; exact e) fun _ z => z)⟩
omit [TabC] in
theorem rls_app {z : Bool} {P : AS} {H : Hp} {es : List D} {ws : List V} : ∀ {ds : List D} {vs : List V}, Rls z K P H ds vs E_ → Rls z K P H es ws E_ → Rls z K P H (ds ++ es) (vs ++ ws) E_
  | _, _, .nil, r => r
  | _, _, .cons a b s1 s2 dj, r => .cons (F1 := E_) (F2 := E_) (rl_mono a (fun _ q => q) (fun _ _ e _ _ => e) s1) (rls_app (rls_mono b (fun _ q => q) (fun _ _ e _ _ => e) s2) r) (fun _ q => q) (fun _ q => q) fun _ q => q.elim
omit [TabC] in
theorem isImms_app : ∀ {ds es : List D}, isImms ds = true → isImms es = true → isImms (ds ++ es) = true
  | [], _, _, h => h
  | _ :: _, _, h, k => by
    simp only [isImms, Bool.and_eq_true, List.cons_append] at h ⊢
    exact ⟨h.1, isImms_app h.2 k⟩
def gAdd (d e : D) : Option D := match d, e with
  | .int i, .int j => some (.int (i + j))
  | .str x, .str y => if x.length + y.length ≤ sizeLine then some (.str (x ++ y)) else none
  | .lst _ xs, .lst _ ys => if (isImms xs = true ∧ isImms ys = true) ∧ xs.length + ys.length ≤ sizeLine then some (.lst true (xs ++ ys)) else none
  | _, _ => none
abbrev rAddU : R2 := fun x y H Q => (∃ i j, x = .int i ∧ y = .int j ∧ Q (.int (i + j)) H) ∨ (∃ i j, x = .str i ∧ y = .str j ∧ i.length + j.length ≤ sizeLine ∧ Q (.str (i ++ j)) H) ∨ rCat x y H Q
omit [TabC] in
theorem op_addU {X : Cx} : OpR X (binaryOp .Add) rAddU := op_add.or (op_add_str.or op_cat)
theorem vAdd : VOp2 K rAddU gAdd := by
  intro P H d e v w x Q pin r1 r2 g h
  cases d <;> cases e <;> simp only [gAdd] at g <;> try (cases g; done)
  · cases g
    rw [rl_int r1, rl_int r2]
    exact .inl ⟨_, _, rfl, rfl, h _ P H E_ New.refl .int⟩
  · rename_i i j
    by_cases c : i.length + j.length ≤ sizeLine
    · rw [if_pos c] at g; cases g
      rw [rl_str r1, rl_str r2]
      exact .inr (.inl ⟨_, _, rfl, rfl, c, h _ P H E_ New.refl .str⟩)
    · rw [if_neg c] at g; cases g
  · rename_i o xs o' ys
    by_cases c : (isImms xs = true ∧ isImms ys = true) ∧ xs.length + ys.length ≤ sizeLine
    · rw [if_pos c] at g; cases g
      obtain ⟨p, vs, rfl, e1, rs1⟩ := lst_read r1
      obtain ⟨q, ws, rfl, e2, rs2⟩ := lst_read r2
      refine .inr (.inr ⟨p, q, vs, ws, rfl, rfl, e1, e2, by rw [← rls_len rs1, ← rls_len rs2]; exact c.2, fun a ha => ?_⟩)
      obtain ⟨n, r⟩ := new_lst ha pin (isImms_app c.1.1 c.1.2) (rls_app rs1 rs2)
      exact h _ _ _ _ n r
    · rw [if_neg c] at g; cases g
def gSub := gI2 fun i j => i - j
def gMul := gC2 CMul fun i j => i * j
def gFdiv := gC2 CDivX Int.fdiv
def gMod := gC2 (fun _ j => j ≠ 0) Int.fmod
def gPow := gC2 CPow fun i j => i ^ j.toNat
def gShl := gC2 CPow fun i j => i * 2 ^ j.toNat
def gShr := gC2 (fun _ j => 0 ≤ j) fun i j => i / 2 ^ j.toNat
def gBand := gI2 Builtin.bitAnd
def gBor := gI2 Builtin.bitOr
theorem vSub : VOp2 K (rI0 fun i j => .int (i - j)) gSub := vI2
theorem vMul : VOp2 K (rI CMul fun i j => .int (i * j)) gMul := vC2
theorem vFdiv : VOp2 K (rI CDivX fun i j => .int (i.fdiv j)) gFdiv := vC2
theorem vMod : VOp2 K (rI (fun _ j => j ≠ 0) fun i j => .int (i.fmod j)) gMod := vC2
theorem vPow : VOp2 K (rI CPow fun i j => .int (i ^ j.toNat)) gPow := vC2
theorem vShl : VOp2 K (rI CPow fun i j => .int (i * 2 ^ j.toNat)) gShl := vC2
theorem vShr : VOp2 K (rI (fun _ j => 0 ≤ j) fun i j => .int (i / 2 ^ j.toNat)) gShr := vC2
theorem vBand : VOp2 K (rI0 fun i j => .int (Builtin.bitAnd i j)) gBand := vI2
theorem vBor : VOp2 K (rI0 fun i j => .int (Builtin.bitOr i j)) gBor := vI2
def gNeg := gU1 fun i => -i
theorem vNeg : VOp1 K (rU fun i => .int (-i)) gNeg := vU1
def gCmp (p : Int → Int → Bool) (q : List Nat → List Nat → Bool) (d e : D) : Option D := match d, e with
  | .int i, .int j => some (.bl (p i j))
  | .str x, .str y => some (.bl (q x.cps.toList y.cps.toList))
  | _, _ => none
abbrev rCmp (p : Int → Int → Bool) (q : List Nat → List Nat → Bool) : R2 := fun x y H Q => (∃ i j, x = .int i ∧ y = .int j ∧ Q (.bl (p i j)) H) ∨ (∃ i j, x = .str i ∧ y = .str j ∧ Q (.bl (q i.cps.toList j.cps.toList)) H)
theorem vCmp {p : Int → Int → Bool} {q : List Nat → List Nat → Bool} : VOp2 K (rCmp p q) (gCmp p q) := by
  intro P H d e v w x Q pin r1 r2 g h
  cases d <;> cases e <;> simp only [gCmp] at g <;> try (cases g; done)
  · cases g
    rw [rl_int r1, rl_int r2]
    exact .inl ⟨_, _, rfl, rfl, h _ P H E_ New.refl .bl⟩
  · cases g
    rw [rl_str r1, rl_str r2]
    exact .inr ⟨_, _, rfl, rfl, h _ P H E_ New.refl .bl⟩
def gLt := gCmp (fun i j => decide (i < j)) fun x y => decide (x < y)
def gLe := gCmp (fun i j => decide (i ≤ j)) fun x y => !decide (y < x)
def gGt := gCmp (fun i j => decide (j < i)) fun x y => decide (y < x)
def gGe := gCmp (fun i j => decide (j ≤ i)) fun x y => !decide (x < y)
omit [TabC] in
theorem op_ltU {X : Cx} : OpR X (compareOp .Lt) (rCmp (fun i j => decide (i < j)) fun x y => decide (x < y)) := op_lt.or op_lt_str
omit [TabC] in
theorem op_leU {X : Cx} : OpR X (compareOp .LtE) (rCmp (fun i j => decide (i ≤ j)) fun x y => !decide (y < x)) := op_le.or op_le_str
omit [TabC] in
theorem op_gtU {X : Cx} : OpR X (compareOp .Gt) (rCmp (fun i j => decide (j < i)) fun x y => decide (y < x)) := op_gt.or op_gt_str
omit [TabC] in
theorem op_geU {X : Cx} : OpR X (compareOp .GtE) (rCmp (fun i j => decide (j ≤ i)) fun x y => !decide (x < y)) := op_ge.or op_ge_str
theorem vLt : VOp2 K (rCmp (fun i j => decide (i < j)) fun x y => decide (x < y)) gLt := vCmp
theorem vLe : VOp2 K (rCmp (fun i j => decide (i ≤ j)) fun x y => !decide (y < x)) gLe := vCmp
theorem vGt : VOp2 K (rCmp (fun i j => decide (j < i)) fun x y => decide (y < x)) gGt := vCmp
theorem vGe : VOp2 K (rCmp (fun i j => decide (j ≤ i)) fun x y => !decide (x < y)) gGe := vCmp
mutual
def toPy : D → PyData
  | .non => .none
  | .bl b => .bool b
  | .int i => .int i
  | .str x => .str x
  | .lst _ xs => .list (toPys xs)
  | .rol xs => .list (toPys xs)
  | .tup xs => .tuple (toPys xs)
  | .dct _ _ _ => .dict []
  | .dcT _ _ _ => .dict []
  | .gv _ => .dict []
  | .obj _ _ _ _ => .dict []
def toPys : List D → List PyData
  | [] => []
  | d :: ds => toPy d :: toPys ds
end
omit [TabC] in
mutual
theorem dp_of {P : AS} {H : Hp} {z : Bool} {d : D} {v : V} {F : AS} (h : Rl z K P H d v F) (s : (toPy d).canLay0 = true) : Dp K H v (toPy d) := by
  cases h with
  | non => exact .non
  | bl => exact .bl _
  | int => exact .int _
  | str => exact .str _
  | lstO e f s' r => exact .lst (.inl (.inl e)) (dps_of r (by simpa only [toPy, PyData.canLay0] using s))
  | lstI e p i r => exact .lst (.inl (.inl e)) (dps_of r (by simpa only [toPy, PyData.canLay0] using s))
  | tup e p r => exact .tup (.inl (.inl e)) (dps_of r (by simpa only [toPy, PyData.canLay0] using s))
  | rol e i r => exact .lst (rol_sql e) (dps_of r (by simpa only [toPy, PyData.canLay0] using s))
  | dctO => simp [toPy, PyData.canLay0] at s
  | dctI => simp [toPy, PyData.canLay0] at s
  | dcTO => simp [toPy, PyData.canLay0] at s
  | dcTI => simp [toPy, PyData.canLay0] at s
  | gv => simp [toPy, PyData.canLay0] at s
  | objO => simp [toPy, PyData.canLay0] at s
  | objI => simp [toPy, PyData.canLay0] at s
theorem dps_of {P : AS} {H : Hp} {z : Bool} {ds : List D} {vs : List V} {F : AS} (h : Rls z K P H ds vs F) (s : PyData.canLayAll0 (toPys ds) = true) : DpAll K H vs (toPys ds) := by
  cases h with
  | nil => exact .nil
  | cons r rs _ _ _ =>
    simp only [toPys, PyData.canLayAll0, Bool.and_eq_true] at s
    exact .cons (dp_of r s.1) (dps_of rs s.2)
end
def gEq (d e : D) : Option D := match d, e with
  | .int i, .int j => some (.bl (decide (i = j)))
  | .bl i, .bl j => some (.bl (decide (i = j)))
  | .str i, .str j => some (.bl (decide (i = j)))
  | _, _ => if SeqAt.shaped (toPy d) = true ∧ SeqAt.shaped (toPy e) = true then some (.bl (PyData.eqv (toPy d) (toPy e))) else none
def gNe (d e : D) : Option D := match gEq d e with
  | some (.bl b) => some (.bl (!b))
  | _ => none
abbrev rEqU (K : PySem.W.Frag) : R2 := fun x y H Q => rEq x y H Q ∨ rEqD K x y H Q
abbrev rNeU (K : PySem.W.Frag) : R2 := fun x y H Q => rNe x y H Q ∨ rNeD K x y H Q
omit [TabC] in
theorem op_eqU {X : Cx} (hu : X.A.units + 64 < cLine) : OpR X (compareOp .Eq) (rEqU X.K) := op_eq.or (op_eqD hu)
omit [TabC] in
theorem op_neU {X : Cx} (hu : X.A.units + 64 < cLine) : OpR X (compareOp .NotEq) (rNeU X.K) := op_ne.or (op_neD hu)
omit [TabC] in
theorem shaped_lay {d : PyData} (h : SeqAt.shaped d = true) : d.canLay0 = true := SeqAt.canLay_of_shaped h
omit [TabC] in
/-- == by cases: two scalars of one kind, or data -/
theorem gEq_cases {d e x : D} (g : gEq d e = some x) : (∃ i j, d = .int i ∧ e = .int j ∧ x = .bl (decide (i = j))) ∨ (∃ i j, d = .bl i ∧ e = .bl j ∧ x = .bl (decide (i = j))) ∨ (∃ i j, d = .str i ∧ e = .str j ∧ x = .bl (decide (i = j))) ∨
    (SeqAt.shaped (toPy d) = true ∧ SeqAt.shaped (toPy e) = true ∧ x = .bl (PyData.eqv (toPy d) (toPy e))) := by
  unfold gEq at g
  split at g
  · cases g; exact .inl ⟨_, _, rfl, rfl, rfl⟩
  · cases g; exact .inr (.inl ⟨_, _, rfl, rfl, rfl⟩)
  · cases g; exact .inr (.inr (.inl ⟨_, _, rfl, rfl, rfl⟩))
  · by_cases c : SeqAt.shaped (toPy d) = true ∧ SeqAt.shaped (toPy e) = true
    · rw [if_pos c] at g; cases g
      exact .inr (.inr (.inr ⟨c.1, c.2, rfl⟩))
    · rw [if_neg c] at g; cases g
theorem vEq : VOp2 K (rEqU K) gEq := by
  intro P H d e v w x Q pin r1 r2 g h
  rcases gEq_cases g with ⟨i, j, rfl, rfl, rfl⟩ | ⟨i, j, rfl, rfl, rfl⟩ | ⟨i, j, rfl, rfl, rfl⟩ | ⟨s1, s2, rfl⟩
  · rw [rl_int r1, rl_int r2]
    refine .inl ⟨rfl, ?_⟩
    rw [show decide (V.int i = V.int j) = decide (i = j) from by simp]
    exact h _ P H E_ New.refl .bl
  · rw [rl_bl r1, rl_bl r2]
    refine .inl ⟨rfl, ?_⟩
    rw [show decide (V.bl i = V.bl j) = decide (i = j) from by simp]
    exact h _ P H E_ New.refl .bl
  · rw [rl_str r1, rl_str r2]
    refine .inl ⟨rfl, ?_⟩
    rw [show decide (V.str i = V.str j) = decide (i = j) from by simp]
    exact h _ P H E_ New.refl .bl
  · exact .inr ⟨_, _, dp_of r1 (shaped_lay s1), dp_of r2 (shaped_lay s2), s1, s2, h _ P H E_ New.refl .bl⟩
theorem vNe : VOp2 K (rNeU K) gNe := by
  intro P H d e v w x Q pin r1 r2 g h
  unfold gNe at g
  split at g
  · rename_i b gb
    cases g
    rcases gEq_cases gb with ⟨i, j, rfl, rfl, q⟩ | ⟨i, j, rfl, rfl, q⟩ | ⟨i, j, rfl, rfl, q⟩ | ⟨s1, s2, q⟩
    · cases q
      rw [rl_int r1, rl_int r2]
      refine .inl ⟨rfl, ?_⟩
      rw [show decide (V.int i = V.int j) = decide (i = j) from by simp]
      exact h _ P H E_ New.refl .bl
    · cases q
      rw [rl_bl r1, rl_bl r2]
      refine .inl ⟨rfl, ?_⟩
      rw [show decide (V.bl i = V.bl j) = decide (i = j) from by simp]
      exact h _ P H E_ New.refl .bl
    · cases q
      rw [rl_str r1, rl_str r2]
      refine .inl ⟨rfl, ?_⟩
      rw [show decide (V.str i = V.str j) = decide (i = j) from by simp]
      exact h _ P H E_ New.refl .bl
    · cases q
      exact .inr ⟨_, _, dp_of r1 (shaped_lay s1), dp_of r2 (shaped_lay s2), s1, s2, h _ P H E_ New.refl .bl⟩
  · cases g
end
end Hap
namespace Hap
open PySem PySem.Spec PyProof.Rows L2
variable [TabC]
section
variable {κ : Type} [DecidableEq κ]
def memK (k : κ) (ks : List κ) : Bool := decide (k ∈ ks)
def getK : List κ → List D → κ → Option D
  | k' :: ks, d :: ds, k => if k' = k then some d else getK ks ds k
  | _, _, _ => none
def replK : List κ → List D → κ → D → List D
  | k' :: ks, x :: xs, k, d => (if k' = k then d else x) :: replK ks xs k d
  | _, _, _, _ => []
/-- in its place, or at the end -/
def putKs (ks : List κ) (xs : List D) (k : κ) (d : D) : List κ × List D := if k ∈ ks then (ks, replK ks xs k d) else (ks ++ [k], xs ++ [d])
variable {K : PySem.W.Frag} {P : AS} {H : Hp} {z : Bool}
omit [TabC] in
theorem getK_some : ∀ {ks : List κ} {ds : List D} {vs : List V} {F : AS} {k : κ} {d : D}, Rls z K P H ds vs F → ks.length = vs.length → getK ks ds k = some d → ∃ v, valV (ks.zip vs) k = some v ∧ Rl z K P H d v F
  | [], _, _, _, _, _, _, _, e => by simp [getK] at e
  | _ :: _, _, _, _, _, _, .nil, l, _ => by simp at l
  | k' :: ks, _, _, F, k, d, .cons (v := v) r rs s1 s2 _, l, e => by
    simp only [getK] at e
    by_cases h : k' = k
    · rw [if_pos h] at e; cases e
      exact ⟨v, valV_pos (p := (k', v)) h, rl_mono r (fun _ q => q) (fun _ _ e _ _ => e) s1⟩
    · rw [if_neg h] at e
      obtain ⟨w, h1, h2⟩ := getK_some rs (by simpa using l) e
      exact ⟨w, (valV_neg (p := (k', v)) h).trans h1, rl_mono h2 (fun _ q => q) (fun _ _ e _ _ => e) s2⟩
omit [TabC] in
theorem getK_none : ∀ {ks : List κ} {ds : List D} {vs : List V} {F : AS} {k : κ}, Rls z K P H ds vs F → ks.length = vs.length → getK ks ds k = none → valV (ks.zip vs) k = none
  | [], _, _, _, _, _, _, _ => rfl
  | _ :: _, _, _, _, _, .nil, l, _ => by simp at l
  | k' :: ks, _, _, F, k, .cons (v := v) r rs s1 s2 _, l, e => by
    simp only [getK] at e
    by_cases h : k' = k
    · rw [if_pos h] at e; cases e
    · rw [if_neg h] at e
      exact (valV_neg (p := (k', v)) h).trans (getK_none rs (by simpa using l) e)
omit [TabC] in
theorem getK_mem : ∀ {ks : List κ} {ds : List D} {k : κ}, ks.length = ds.length → (getK ks ds k).isSome = decide (k ∈ ks)
  | [], _, _, _ => by simp [getK]
  | _ :: _, [], _, l => by simp at l
  | k' :: ks, d :: ds, k, l => by
    simp only [getK]
    by_cases h : k' = k
    · rw [if_pos h]; simp [h]
    · rw [if_neg h, getK_mem (ks := ks) (ds := ds) (k := k) (by simpa using l)]
      have h' : ¬ k = k' := fun e => h e.symm
      simp [h']
theorem valV_isSome {ks : List κ} {ds : List D} {vs : List V} {F : AS} {k : κ} (r : Rls z K P H ds vs F) (l : ks.length = vs.length) : (valV (ks.zip vs) k).isSome = decide (k ∈ ks) := by
  rw [← getK_mem (ds := ds) (by rw [l, rls_len r])]
  cases e : getK ks ds k with
  | none => rw [getK_none r l e]; rfl
  | some d => obtain ⟨v, h, _⟩ := getK_some r l e; rw [h]; rfl
omit [TabC] in
theorem zip_any {k : κ} : ∀ {ks : List κ} {vs : List V}, ks.length = vs.length → ((ks.zip vs).any fun kv => decide (kv.1 = k)) = decide (k ∈ ks)
  | [], _, _ => by simp
  | _ :: _, [], l => by simp at l
  | k' :: ks, v :: vs, l => by
    rw [List.zip_cons_cons, List.any_cons, zip_any (by simpa using l)]
    by_cases h : k' = k
    · simp [h]
    · have h' : ¬ k = k' := fun e => h e.symm
      simp [h, h']
/-- the values behind a store -/
def replV : List κ → List V → κ → V → List V
  | k' :: ks, x :: xs, k, d => (if k' = k then d else x) :: replV ks xs k d
  | _, _, _, _ => []
omit [TabC] in
theorem repl_zip {k : κ} {v : V} : ∀ {ks : List κ} {vs : List V}, (ks.zip vs).map (fun kv => if kv.1 = k then (kv.1, v) else kv) = ks.zip (replV ks vs k v)
  | [], _ => rfl
  | _ :: _, [] => rfl
  | k' :: ks, w :: vs => by
    rw [List.zip_cons_cons, List.map_cons, repl_zip]
    simp only [replV, List.zip_cons_cons]
    congr 1
    by_cases h : k' = k
    · simp [h]
    · simp [h]
omit [TabC] in
theorem replV_len {k : κ} {v : V} : ∀ {ks : List κ} {vs : List V}, ks.length = vs.length → (replV ks vs k v).length = vs.length
  | [], [], _ => rfl
  | [], _ :: _, l => by simp at l
  | _ :: _, [], l => by simp at l
  | _ :: ks, _ :: vs, l => congrArg (· + 1) (replV_len (ks := ks) (vs := vs) (by simpa using l))
omit [TabC] in
theorem repl_rls {k : κ} {d : D} {v : V} : ∀ {ks : List κ} {ds : List D} {vs : List V} {F1 : AS}, Rls z K P H ds vs F1 → isImm d = true → Rl z K P H d v E_ → ks.length = vs.length → Rls z K P H (replK ks ds k d) (replV ks vs k v) F1
  | [], _, _, _, .nil, _, _, _ => .nil
  | [], _, _, _, .cons .., _, _, l => by simp at l
  | _ :: _, _, _, _, .nil, _, _, l => by simp at l
  | k' :: ks, _, _, F, .cons (F1 := G1) (F2 := G2) r rs s1 s2 dj, i, q, l => by
    simp only [replK, replV]
    refine .cons (F1 := G1) (F2 := G2) ?_ (repl_rls rs i q (by simpa using l)) s1 s2 dj
    by_cases h : k' = k
    · rw [if_pos h, if_pos h]; exact rl_imm q i
    · rw [if_neg h, if_neg h]; exact r
/-- d[k] = v, the value given up -/
theorem put_ok {k : κ} {d : D} {v : V} {ks : List κ} {ds : List D} {vs : List V} {F1 : AS} (r : Rls z K P H ds vs F1) (i : isImm d = true) (q : Rl z K P H d v E_) (l : ks.length = vs.length) :
    ∃ vs', putK (ks.zip vs) k v = (putKs ks ds k d).1.zip vs' ∧ (putKs ks ds k d).1.length = vs'.length ∧ Rls z K P H (putKs ks ds k d).2 vs' F1 := by
  unfold putK putKs
  rw [zip_any l]
  by_cases h : k ∈ ks
  · rw [if_pos (decide_eq_true h), if_pos h]
    exact ⟨replV ks vs k v, repl_zip, (replV_len l ▸ l), repl_rls r i q l⟩
  · rw [if_neg (by simpa using h), if_neg h]
    refine ⟨vs ++ [v], ?_, by simpa using l, ?_⟩
    · rw [List.zip_append l]; rfl
    · exact rls_snoc (F1 := F1) (F2 := E_) r q (fun _ z => z) (fun _ z => z.elim) fun _ _ z => z
end
def keyOf (d : D) : Option Key := match d with
  | .int i => some (.inl i)
  | .str x => some (.inr x)
  | _ => none
def keysOf : List D → Option (List Key)
  | [] => some []
  | d :: ds => match keyOf d, keysOf ds with
    | some k, some ks => some (k :: ks)
    | _, _ => none
omit [TabC] in
theorem keyOf_rl {K : PySem.W.Frag} {P : AS} {H : Hp} {z : Bool} {d : D} {v : V} {F : AS} {k : Key} (r : Rl z K P H d v F) (h : keyOf d = some k) : v = kV k := by
  cases r <;> cases h <;> rfl
theorem keysOf_rls {K : PySem.W.Frag} {P : AS} {H : Hp} {z : Bool} : ∀ {ds : List D} {vs : List V} {F : AS} {ks : List Key}, Rls z K P H ds vs F → keysOf ds = some ks → vs = ks.map kV
  | _, _, _, _, .nil, h => by cases h; rfl
  | _, _, _, _, .cons (d := d) (ds := ds) r rs _ _ _, h => by
    simp only [keysOf] at h
    cases e1 : keyOf d with
    | none => simp [e1] at h
    | some k =>
      cases e2 : keysOf ds with
      | none => simp [e1, e2] at h
      | some ks =>
        simp only [e1, e2] at h; cases h
        rw [keyOf_rl r e1, keysOf_rls rs e2]; rfl
def flatD (d : D) : Bool := match d with
  | .non => true
  | .bl _ => true
  | .int _ => true
  | .str _ => true
  | _ => false
def toV (d : D) : V := match d with
  | .bl b => .bl b
  | .int i => .int i
  | .str x => .str x
  | _ => .non
omit [TabC] in
theorem flat_rl {K : PySem.W.Frag} {P : AS} {H : Hp} {z : Bool} {d : D} {v : V} {F : AS} (r : Rl z K P H d v F) (h : flatD d = true) : v = toV d ∧ flatV v = true := by
  cases r <;> first | exact ⟨rfl, rfl⟩ | cases h
theorem flats_rls {K : PySem.W.Frag} {P : AS} {H : Hp} {z : Bool} : ∀ {ds : List D} {vs : List V} {F : AS}, Rls z K P H ds vs F → ds.all flatD = true → vs = ds.map toV ∧ vs.all flatV = true
  | _, _, _, .nil, _ => ⟨rfl, rfl⟩
  | _, _, _, .cons r rs _ _ _, h => by
    simp only [List.all_cons, Bool.and_eq_true] at h
    obtain ⟨h1, h2⟩ := flat_rl r h.1
    obtain ⟨h3, h4⟩ := flats_rls rs h.2
    refine ⟨by rw [h1, h3]; rfl, by rw [List.all_cons, h2, h4]; rfl⟩
def gInB (d e : D) : Option Bool := match e with
  | .str z => (match d with
    | .str x => (match x.cps.toList with
      | [c] => some (decide (c ∈ z.cps.toList))
      | _ => none)
    | _ => none)
  | .lst _ xs => if SeqAt.shaped (toPy d) = true ∧ SeqAt.shaped (.list (toPys xs)) = true then some ((toPys xs).any fun z => PyData.eqv z (toPy d)) else none
  | .rol xs => if SeqAt.shaped (toPy d) = true ∧ SeqAt.shaped (.list (toPys xs)) = true then some ((toPys xs).any fun z => PyData.eqv z (toPy d)) else none
  | .tup xs => if flatD d = true ∧ xs.all flatD = true then some (inV (toV d) (xs.map toV)) else none
  | .dct _ ks _ => (keyOf d).map fun k => memK k ks
  | .dcT _ ks _ => (match d with
    | .tup ds => (keysOf ds).map fun k => memK k ks
    | _ => none)
  | _ => none
def gIn (d e : D) : Option D := (gInB d e).map .bl
def gNin (d e : D) : Option D := (gInB d e).map fun b => .bl (!b)
abbrev rDIn (neg : Bool) : R2 := fun y x H Q => ∃ a o, x = .ref a ∧ DGet H a y o ∧ Q (.bl (if neg = true then !o.isSome else o.isSome)) H
abbrev rInU (K : PySem.W.Frag) : R2 := fun x y H Q => (∃ (c : Nat) (z : Str), x = .str ⟨#[c]⟩ ∧ y = .str z ∧ Q (.bl (decide (c ∈ z.cps.toList))) H) ∨ rInD K x y H Q ∨ rIn K false x y H Q ∨ rDIn false x y H Q
abbrev rNinU (K : PySem.W.Frag) : R2 := fun x y H Q => (∃ (c : Nat) (z : Str), x = .str ⟨#[c]⟩ ∧ y = .str z ∧ Q (.bl (!decide (c ∈ z.cps.toList))) H) ∨ rNotInD K x y H Q ∨ rIn K true x y H Q ∨ rDIn true x y H Q
omit [TabC] in
theorem op_dIn {X : Cx} (hu : X.A.units + 1 < cLine) : OpR X (compareOp .In) (rDIn false) := by
  intro pins s σ H x y v u Q I rx ry h
  obtain ⟨a, o, rfl, g, q⟩ := h
  cases ry
  exact d_in hu I g rx fun s3 I3 => ⟨.bl o.isSome, H, I3, rfl, by simpa using q⟩
omit [TabC] in
theorem op_dNin {X : Cx} (hu : X.A.units + 1 < cLine) : OpR X (compareOp .NotIn) (rDIn true) := by
  intro pins s σ H x y v u Q I rx ry h
  obtain ⟨a, o, rfl, g, q⟩ := h
  cases ry
  exact d_notIn hu I g rx fun s3 I3 => ⟨.bl (!o.isSome), H, I3, rfl, by simpa using q⟩
theorem op_inU {X : Cx} (hu : X.A.units + 65 < cLine) : OpR X (compareOp .In) (rInU X.K) := op_in_sign.or ((op_inD hu).or (op_in_seq.or (op_dIn (by omega))))
theorem op_ninU {X : Cx} (hu : X.A.units + 65 < cLine) : OpR X (compareOp .NotIn) (rNinU X.K) := op_notIn_sign.or ((op_notInD hu).or (op_notIn_seq.or (op_dNin (by omega))))
section
variable {K : PySem.W.Frag}
omit [TabC] in
theorem str_one {x : Str} {c : Nat} (h : x.cps.toList = [c]) : x = ⟨#[c]⟩ := by
  obtain ⟨a⟩ := x
  have : a = #[c] := by
    apply Array.ext'
    simpa using h
  rw [this]
/-- what stands behind «in» -/
theorem inB_cases {P : AS} {H : Hp} {d e : D} {v w : V} {b : Bool} (r1 : Rl false K P H d v E_) (r2 : Rl false K P H e w E_) (g : gInB d e = some b) :
    (∃ (c : Nat) (z : Str), v = .str ⟨#[c]⟩ ∧ w = .str z ∧ b = decide (c ∈ z.cps.toList)) ∨
    (∃ d' ds, Dp K H v d' ∧ Dp K H w (.list ds) ∧ SeqAt.shaped d' = true ∧ SeqAt.shaped (.list ds) = true ∧ b = ds.any fun z => PyData.eqv z d') ∨
    (∃ p xs, w = .ref p ∧ (SqL K H p xs ∨ SqT K H p xs) ∧ flatV v = true ∧ xs.all flatV = true ∧ b = inV v xs) ∨ ∃ a o, w = .ref a ∧ DGet H a v o ∧ b = o.isSome := by
  cases r2 with
  | str =>
    simp only [gInB] at g
    cases r1 with
    | str =>
      simp only at g
      split at g
      · rename_i c e
        cases g
        rw [str_one e]
        exact .inl ⟨_, _, rfl, rfl, rfl⟩
      · cases g
    | _ => simp at g
  | lstO e f s r =>
    simp only [gInB] at g
    split at g
    · rename_i c
      cases g
      exact .inr (.inl ⟨_, _, dp_of r1 (shaped_lay c.1), .lst (.inl (.inl e)) (dps_of r (by simpa only [PyData.canLay0] using shaped_lay c.2)), c.1, c.2, rfl⟩)
    · cases g
  | lstI e p i r =>
    simp only [gInB] at g
    split at g
    · rename_i c
      cases g
      exact .inr (.inl ⟨_, _, dp_of r1 (shaped_lay c.1), .lst (.inl (.inl e)) (dps_of r (by simpa only [PyData.canLay0] using shaped_lay c.2)), c.1, c.2, rfl⟩)
    · cases g
  | rol e i r =>
    simp only [gInB] at g
    split at g
    · rename_i c
      cases g
      exact .inr (.inl ⟨_, _, dp_of r1 (shaped_lay c.1), .lst (rol_sql e) (dps_of r (by simpa only [PyData.canLay0] using shaped_lay c.2)), c.1, c.2, rfl⟩)
    · cases g
  | tup e p r =>
    simp only [gInB] at g
    split at g
    · rename_i c
      cases g
      obtain ⟨h1, h2⟩ := flat_rl r1 c.1
      obtain ⟨h3, h4⟩ := flats_rls r c.2
      exact .inr (.inr (.inl ⟨_, _, rfl, .inr (.inl (.inl e)), h2, h4, by rw [h1, h3]⟩))
    · cases g
  | dctO e k l f s r =>
    simp only [gInB] at g
    cases e2 : keyOf d with
    | none => rw [e2] at g; cases g
    | some kk =>
      rw [e2] at g; cases g
      subst k
      rw [keyOf_rl r1 e2]
      exact .inr (.inr (.inr ⟨_, _, rfl, DGet.k e, (valV_isSome r l).symm⟩))
  | dctI e k l p i r =>
    simp only [gInB] at g
    cases e2 : keyOf d with
    | none => rw [e2] at g; cases g
    | some kk =>
      rw [e2] at g; cases g
      subst k
      rw [keyOf_rl r1 e2]
      exact .inr (.inr (.inr ⟨_, _, rfl, DGet.kR e, (valV_isSome r l).symm⟩))
  | dcTO e k l f s r =>
    simp only [gInB] at g
    cases r1 with
    | @tup _ _ ds1 _ e1 p1 rs1 =>
      simp only at g
      cases e2 : keysOf ds1 with
      | none => rw [e2] at g; cases g
      | some kk =>
        rw [e2] at g; cases g
        subst k
        rw [keysOf_rls rs1 e2] at e1
        exact .inr (.inr (.inr ⟨_, _, rfl, DGet.t e e1, (valV_isSome r l).symm⟩))
    | _ => simp at g
  | dcTI e k l p i r =>
    simp only [gInB] at g
    cases r1 with
    | @tup _ _ ds1 _ e1 p1 rs1 =>
      simp only at g
      cases e2 : keysOf ds1 with
      | none => rw [e2] at g; cases g
      | some kk =>
        rw [e2] at g; cases g
        subst k
        rw [keysOf_rls rs1 e2] at e1
        exact .inr (.inr (.inr ⟨_, _, rfl, DGet.tR e e1, (valV_isSome r l).symm⟩))
    | _ => simp at g
  | _ => simp [gInB] at g
theorem vIn : VOp2 K (rInU K) gIn := by
  intro P H d e v w x Q pin r1 r2 g h
  unfold gIn at g
  cases gb : gInB d e with
  | none => rw [gb] at g; cases g
  | some b =>
    rw [gb] at g; cases g
    have h := h _ P H E_ New.refl .bl
    rcases inB_cases r1 r2 gb with ⟨c, z, rfl, rfl, rfl⟩ | ⟨d', ds, h1, h2, h3, h4, rfl⟩ | ⟨p, xs, rfl, h1, h2, h3, rfl⟩ | ⟨a, o, rfl, h1, rfl⟩
    · exact .inl ⟨c, z, rfl, rfl, h⟩
    · exact .inr (.inl ⟨d', ds, h1, h2, h3, h4, h⟩)
    · exact .inr (.inr (.inl ⟨p, xs, rfl, h1, h2, h3, h⟩))
    · exact .inr (.inr (.inr ⟨a, o, rfl, h1, by simpa using h⟩))
theorem vNin : VOp2 K (rNinU K) gNin := by
  intro P H d e v w x Q pin r1 r2 g h
  unfold gNin at g
  cases gb : gInB d e with
  | none => rw [gb] at g; cases g
  | some b =>
    rw [gb] at g; cases g
    have h := h _ P H E_ New.refl .bl
    rcases inB_cases r1 r2 gb with ⟨c, z, rfl, rfl, rfl⟩ | ⟨d', ds, h1, h2, h3, h4, rfl⟩ | ⟨p, xs, rfl, h1, h2, h3, rfl⟩ | ⟨a, o, rfl, h1, rfl⟩
    · exact .inl ⟨c, z, rfl, rfl, h⟩
    · exact .inr (.inl ⟨d', ds, h1, h2, h3, h4, h⟩)
    · exact .inr (.inr (.inl ⟨p, xs, rfl, h1, h2, h3, h⟩))
    · exact .inr (.inr (.inr ⟨a, o, rfl, h1, by simpa using h⟩))
end
end Hap
namespace Hap
open PySem PySem.Spec PyProof.Rows L2
variable [TabC]
def gIs (d e : D) : Option D := match d, e with
  | .bl a, .bl b => some (.bl (decide (a = b)))
  | .non, .non => some (.bl true)
  | _, .non => some (.bl false)
  | _, _ => none
def gIsn (d e : D) : Option D := match gIs d e with
  | some (.bl b) => some (.bl (!b))
  | _ => none
abbrev rIsU : R2 := fun x y H Q => (∃ a b, x = .bl a ∧ y = .bl b ∧ Q (.bl (decide (a = b))) H) ∨ (y = .non ∧ Q (.bl (decide (x = .non))) H)
abbrev rIsnU : R2 := fun x y H Q => (∃ a b, x = .bl a ∧ y = .bl b ∧ Q (.bl (!decide (a = b))) H) ∨ (y = .non ∧ Q (.bl (!decide (x = .non))) H)
omit [TabC] in
theorem op_isU {X : Cx} : OpR X (compareOp .Is) rIsU := op_is_bl.or op_isN
omit [TabC] in
theorem op_isnU {X : Cx} : OpR X (compareOp .IsNot) rIsnU := op_isnot_bl.or op_notN
def isGv (d : D) : Bool := match d with
  | .gv _ => true
  | _ => false
section
variable {K : PySem.W.Frag}
omit [TabC] in
theorem non_iff {P : AS} {H : Hp} {d : D} {v : V} (r : Rl false K P H d v E_) (n : isGv d = false) (hd : d ≠ .non) : decide (v = V.non) = false := by
  cases r <;> first | rfl | exact absurd rfl hd | cases n
theorem vIsB {P : AS} {H : Hp} {d e : D} {v w : V} {b : Bool} (r1 : Rl false K P H d v E_) (r2 : Rl false K P H e w E_) (n : isGv d = false) (g : gIs d e = some (.bl b)) :
    (∃ a c, v = .bl a ∧ w = .bl c ∧ b = decide (a = c)) ∨ (w = .non ∧ b = decide (v = .non)) := by
  unfold gIs at g
  split at g
  · cases g
    exact .inl ⟨_, _, rl_bl r1, rl_bl r2, rfl⟩
  · cases g
    rw [rl_non r1, rl_non r2]
    exact .inr ⟨rfl, rfl⟩
  · rename_i h1 h2
    cases g
    refine .inr ⟨rl_non r2, (non_iff r1 n ?_).symm⟩
    intro z
    exact h2 z
  · cases g
def gIs' (d e : D) : Option D := if isGv d = true then none else gIs d e
def gIsn' (d e : D) : Option D := if isGv d = true then none else gIsn d e
theorem vIs : VOp2 K rIsU gIs' := by
  intro P H d e v w x Q pin r1 r2 g h
  unfold gIs' at g
  by_cases n : isGv d = true
  · rw [if_pos n] at g; cases g
  · rw [if_neg n] at g
    have n' : isGv d = false := by simpa using n
    have : ∃ b, x = .bl b := by
      unfold gIs at g
      split at g <;> cases g <;> exact ⟨_, rfl⟩
    obtain ⟨b, rfl⟩ := this
    have hq := h (.bl b) P H E_ New.refl .bl
    rcases vIsB r1 r2 n' g with ⟨a, c, rfl, rfl, rfl⟩ | ⟨rfl, rfl⟩
    · exact .inl ⟨a, c, rfl, rfl, hq⟩
    · exact .inr ⟨rfl, hq⟩
theorem vIsn : VOp2 K rIsnU gIsn' := by
  intro P H d e v w x Q pin r1 r2 g h
  unfold gIsn' at g
  by_cases n : isGv d = true
  · rw [if_pos n] at g; cases g
  · rw [if_neg n] at g
    have n' : isGv d = false := by simpa using n
    unfold gIsn at g
    split at g
    · rename_i b gb
      cases g
      have hq := h (.bl !b) P H E_ New.refl .bl
      rcases vIsB r1 r2 n' gb with ⟨a, c, rfl, rfl, rfl⟩ | ⟨rfl, rfl⟩
      · exact .inl ⟨a, c, rfl, rfl, hq⟩
      · exact .inr ⟨rfl, hq⟩
    · cases g
def gLen (ds : List D) : Option D := match ds with
  | [.str x] => if x.length ≤ sizeLine then some (.int x.length) else none
  | [.lst _ xs] => some (.int xs.length)
  | [.rol xs] => some (.int xs.length)
  | [.tup xs] => some (.int xs.length)
  | [.dct _ ks _] => some (.int ks.length)
  | _ => none
abbrev rLenU (K : PySem.W.Frag) : List V → Hp → VK → Prop := fun xs H Q => (∃ x n, xs = [x] ∧ LenV K x H n ∧ Q (.int n) H) ∨ (∃ a kvs, xs = [V.ref a] ∧ Rd H a (.dK kvs) ∧ Q (.int kvs.length) H)
omit [TabC] in
theorem call_lenDR {X : Cx} : CallR X (.builtin "len") (fun xs H Q => ∃ a kvs, xs = [V.ref a] ∧ Rd H a (.dK kvs) ∧ Q (.int kvs.length) H) := by
  intro pins s σ H xs us Q I r h
  obtain ⟨a, kvs, rfl, ha, q⟩ := h
  obtain ⟨u, rfl, ru⟩ := vals1 r
  cases ru
  exact d_len I ha fun t s' I' => ⟨.int kvs.length, H, I', ⟨t, rfl⟩, q⟩
omit [TabC] in
theorem call_lenU {X : Cx} : CallR X (.builtin "len") (rLenU X.K) := call_len.or call_lenDR
omit [TabC] in
theorem rol_read {P : AS} {H : Hp} {ds : List D} {v : V} {z : Bool} {F : AS} (r : Rl z K P H (.rol ds) v F) : ∃ p vs, v = .ref p ∧ SqL K H p vs ∧ Rls false K P H ds vs E_ := by
  cases r with
  | rol e i rs => exact ⟨_, _, rfl, rol_sql e, rls_view rs⟩
omit [TabC] in
theorem tup_read {P : AS} {H : Hp} {ds : List D} {v : V} {z : Bool} {F : AS} (r : Rl z K P H (.tup ds) v F) : ∃ p vs, v = .ref p ∧ H p = some (.tup vs) ∧ P p ∧ Rls false K P H ds vs E_ := by
  cases r with
  | tup e p rs => exact ⟨_, _, rfl, e, p, rls_view rs⟩
omit [TabC] in
theorem dct_read {P : AS} {H : Hp} {o : Bool} {ks : List Key} {ds : List D} {v : V} {z : Bool} {F : AS} (r : Rl z K P H (.dct o ks ds) v F) : ∃ p vs, v = .ref p ∧ Rd H p (.dK (ks.zip vs)) ∧ ks.length = vs.length ∧ Rls false K P H ds vs E_ := by
  cases r with
  | dctO e k l f s rs => subst k; exact ⟨_, _, rfl, .inl e, l, rls_view rs⟩
  | dctI e k l p i rs => subst k; exact ⟨_, _, rfl, e, l, rls_view rs⟩
omit [TabC] in
theorem dcT_read {P : AS} {H : Hp} {o : Bool} {ks : List (List Key)} {ds : List D} {v : V} {z : Bool} {F : AS} (r : Rl z K P H (.dcT o ks ds) v F) : ∃ p vs, v = .ref p ∧ Rd H p (.dT (ks.zip vs)) ∧ ks.length = vs.length ∧ Rls false K P H ds vs E_ := by
  cases r with
  | dcTO e k l f s rs => subst k; exact ⟨_, _, rfl, .inl e, l, rls_view rs⟩
  | dcTI e k l p i rs => subst k; exact ⟨_, _, rfl, e, l, rls_view rs⟩
theorem vLen : VOpN K (rLenU K) gLen := by
  intro P H ds vs x Q pin rs g h
  unfold gLen at g
  split at g
  · obtain ⟨v, rfl, r⟩ := rls1 rs
    split at g
    · rename_i c
      cases g
      rw [rl_str r]
      exact .inl ⟨_, _, rfl, ⟨c, rfl⟩, h _ P H E_ New.refl .int⟩
    · cases g
  · obtain ⟨v, rfl, r⟩ := rls1 rs
    cases g
    obtain ⟨p, vs, rfl, e, r2⟩ := lst_read r
    refine .inl ⟨_, vs.length, rfl, .inl ⟨vs, .inl (.inl e), rfl⟩, ?_⟩
    rw [← rls_len r2]
    exact h _ P H E_ New.refl .int
  · obtain ⟨v, rfl, r⟩ := rls1 rs
    cases g
    obtain ⟨p, vs, rfl, e, r2⟩ := rol_read r
    refine .inl ⟨_, vs.length, rfl, .inl ⟨vs, e, rfl⟩, ?_⟩
    rw [← rls_len r2]
    exact h _ P H E_ New.refl .int
  · obtain ⟨v, rfl, r⟩ := rls1 rs
    cases g
    obtain ⟨p, vs, rfl, e, _, r2⟩ := tup_read r
    refine .inl ⟨_, vs.length, rfl, .inr ⟨vs, .inl (.inl e), rfl⟩, ?_⟩
    rw [← rls_len r2]
    exact h _ P H E_ New.refl .int
  · obtain ⟨v, rfl, r⟩ := rls1 rs
    cases g
    obtain ⟨p, vs, rfl, e, l, r2⟩ := dct_read r
    refine .inr ⟨p, _, rfl, e, ?_⟩
    rw [List.length_zip, ← l, Nat.min_self]
    exact h _ P H E_ New.refl .int
  · cases g
def gIx (d e : D) : Option D := match d with
  | .lst _ xs => (match e with
    | .int i => atI xs i
    | _ => none)
  | .rol xs => (match e with
    | .int i => atI xs i
    | _ => none)
  | .tup xs => (match e with
    | .int i => atI xs i
    | _ => none)
  | .str z => (match e with
    | .int i => if z.length ≤ sizeLine then (atI z.cps.toList i).map fun c => .str ⟨#[c]⟩ else none
    | _ => none)
  | .dct _ ks xs => (keyOf e).bind (getK ks xs)
  | .dcT _ ks xs => (match e with
    | .tup ds => (keysOf ds).bind (getK ks xs)
    | _ => none)
  | _ => none
def gIxI (d e : D) : Option D := match gIx d e with
  | some x => if isImm x = true then some x else none
  | none => none
abbrev rIxU (K : PySem.W.Frag) : R2 := fun x y H Q => rIx K x y H Q ∨ ∃ a v, x = .ref a ∧ DGet H a y (some v) ∧ Q v H
omit [TabC] in
theorem ix_U {X : Cx} (hu : X.A.units + 1 < cLine) : IxR X (rIxU X.K) := by
  intro value slice pins s σ H x y v u Q I rx ry h hs
  rcases h with h | ⟨a, w, rfl, g, q⟩
  · exact ix_seq value slice pins s σ H x y v u Q I rx ry h hs
  · cases rx
    exact tail_any (dict_typeIs I g) PySem.F.slot_dict_getitem.lookup (d_getItem hu I g ry fun w' s' I' rw' => ⟨w, H, I', rw', q⟩) hs
omit [TabC] in
theorem atI_rls {P : AS} {H : Hp} {ds : List D} {vs : List V} {i : Int} {d : D} {z : Bool} {F : AS} (r : Rls z K P H ds vs F) (h : atI ds i = some d) : ∃ v, atI vs i = some v ∧ Rl z K P H d v F := by
  unfold atI at h ⊢
  rw [← rls_len r]
  cases e : ixN ds.length i with
  | none => rw [e] at h; cases h
  | some j =>
    rw [e] at h
    exact rls_get r h
/-- by a look -/
theorem vIx0 {P : AS} {H : Hp} {d e x : D} {v w : V} {Q : VK} (r1 : Rl false K P H d v E_) (r2 : Rl false K P H e w E_) (g : gIx d e = some x) (h : ∀ u, Rl false K P H x u E_ → Q u H) : rIxU K v w H Q := by
  unfold gIx at g
  split at g
  · split at g
    · obtain ⟨p, vs, rfl, e, rs⟩ := lst_read r1
      obtain ⟨u, h1, h2⟩ := atI_rls rs g
      rw [rl_int r2]
      exact .inl (.inl ⟨p, vs, _, u, rfl, rfl, .inl (.inl e), h1, h u h2⟩)
    · cases g
  · split at g
    · obtain ⟨p, vs, rfl, e, rs⟩ := rol_read r1
      obtain ⟨u, h1, h2⟩ := atI_rls rs g
      rw [rl_int r2]
      exact .inl (.inl ⟨p, vs, _, u, rfl, rfl, e, h1, h u h2⟩)
    · cases g
  · split at g
    · obtain ⟨p, vs, rfl, e, _, rs⟩ := tup_read r1
      obtain ⟨u, h1, h2⟩ := atI_rls rs g
      rw [rl_int r2]
      exact .inl (.inr (.inl ⟨p, vs, _, u, rfl, rfl, .inl (.inl e), h1, h u h2⟩))
    · cases g
  · split at g
    · rename_i z _ i
      split at g
      · rename_i c
        cases e : atI z.cps.toList i with
        | none => rw [e] at g; cases g
        | some k =>
          rw [e] at g; cases g
          rw [rl_str r1, rl_int r2]
          exact .inl (.inr (.inr ⟨_, _, k, rfl, rfl, c, e, h _ .str⟩))
      · cases g
    · cases g
  · rename_i ks xs
    cases e1 : keyOf e with
    | none => rw [e1] at g; cases g
    | some k =>
      rw [e1] at g
      obtain ⟨p, vs, rfl, e2, l, rs⟩ := dct_read r1
      obtain ⟨u, h1, h2⟩ := getK_some rs l g
      rw [keyOf_rl r2 e1]
      exact .inr ⟨p, u, rfl, h1 ▸ DGet.kR e2, h u h2⟩
  · rename_i ks xs
    split at g
    · rename_i ds
      cases e1 : keysOf ds with
      | none => rw [e1] at g; cases g
      | some k =>
        rw [e1] at g
        obtain ⟨p, vs, rfl, e2, l, rs⟩ := dcT_read r1
        obtain ⟨u, h1, h2⟩ := getK_some rs l g
        obtain ⟨q, ws, rfl, e3, _, rs3⟩ := tup_read r2
        rw [keysOf_rls rs3 e1] at e3
        exact .inr ⟨p, u, rfl, h1 ▸ DGet.tR e2 e3, h u h2⟩
    · cases g
  · cases g
theorem vIxI : VOp2 K (rIxU K) gIxI := by
  intro P H d e v w x Q pin r1 r2 g h
  unfold gIxI at g
  cases e1 : gIx d e with
  | none => rw [e1] at g; cases g
  | some y =>
    rw [e1] at g
    simp only at g
    split at g
    · rename_i i
      cases g
      exact vIx0 r1 r2 e1 fun u r => h u P H E_ New.refl (rl_imm r i)
    · cases g
end
section
variable {X : Cx} {RX : RXR} {W : WX} {a b : Expr} {pos : Pos}
theorem dv_ixU {f k : Ev → Option D} (hu : X.A.units + 1 < cLine) (ha : DV X a f) (hb : DV X b k) (hs : PlainIx b) : DV X (.Subscript a b pos) (vOp2 gIx f k) := by
  refine pe_imp (pe_ix (ix_U hu) ha hb hs) fun σ H Q h => ?_
  obtain ⟨P, ρ, FE, S, h⟩ := h
  refine ⟨P, ρ, FE, S, ?_⟩
  unfold vOp2 at h
  cases e : f ρ with
  | none => simp only [e, Option.bind] at h
  | some d =>
    simp only [e, Option.bind] at h
    intro v P1 H1 n1 r1
    refine ⟨P1, ρ, FE, n1.stt S, ?_⟩
    cases e1 : k ρ with
    | none => simp only [e1] at h
    | some d' =>
      simp only [e1] at h
      intro w P2 H2 n2 r2
      cases e2 : gIx d d' with
      | none => simp only [e2] at h
      | some x =>
        simp only [e2] at h
        have r1' : Rl false X.K P2 H2 d v E_ := rl_mono r1 n2.mono (fun b o e _ => n2.same b o e) (fun _ q => q)
        exact vIx0 r1' r2 e2 fun u r => h u P2 H2 (n1.trans_ n2) r
theorem de_ixU {f k : Ev → R D} (hu : X.A.units + 1 < cLine) (ha : DE X RX W a f) (hb : DE X RX W b k) (hs : PlainIx b) : DE X RX W (.Subscript a b pos) (fOp2 gIxI f k) := de_ix (ix_U hu) vIxI ha hb hs
/-- a look, the index with its effects: the look is taken behind it -/
def fIxE (i : Nat) (k : Ev → R D) : Ev → R D := fun ρ => match ρ[i]? with
  | some (some _) => (k ρ).bind fun e ρ1 => (match ρ1[i]? with
    | some (some d) => R.of (gIxI d e) ρ1
    | _ => .stk)
  | _ => .stk
end
end Hap
namespace Hap
open PySem PySem.Spec PyProof.Rows L2
variable [TabC]
section
variable {K : PySem.W.Frag}
def gList (ds : List D) : Option D := match ds with
  | [.lst _ xs] => if isImms xs = true then some (.lst true xs) else none
  | [.rol xs] => if isImms xs = true then some (.lst true xs) else none
  | [.tup xs] => if isImms xs = true then some (.lst true xs) else none
  | _ => none
abbrev rListU (K : PySem.W.Frag) : List V → Hp → VK → Prop := fun xs H Q => ∃ p ys, xs = [.ref p] ∧ (SqL K H p ys ∨ SqT K H p ys) ∧ ∀ l, H l = none → Q (.ref l) (upd H l (.lst ys))
theorem vList : VOpN K (rListU K) gList := by
  intro P H ds vs x Q pin rs g h
  unfold gList at g
  split at g
  · obtain ⟨v, rfl, r⟩ := rls1 rs
    split at g
    · rename_i i
      cases g
      obtain ⟨p, vs, rfl, e, r2⟩ := lst_read r
      exact ⟨p, vs, rfl, .inl (.inl (.inl e)), fun l hl => let ⟨n, r⟩ := new_lst hl pin i r2; h _ _ _ _ n r⟩
    · cases g
  · obtain ⟨v, rfl, r⟩ := rls1 rs
    split at g
    · rename_i i
      cases g
      obtain ⟨p, vs, rfl, e, r2⟩ := rol_read r
      exact ⟨p, vs, rfl, .inl e, fun l hl => let ⟨n, r⟩ := new_lst hl pin i r2; h _ _ _ _ n r⟩
    · cases g
  · obtain ⟨v, rfl, r⟩ := rls1 rs
    split at g
    · rename_i i
      cases g
      obtain ⟨p, vs, rfl, e, _, r2⟩ := tup_read r
      exact ⟨p, vs, rfl, .inr (.inl (.inl e)), fun l hl => let ⟨n, r⟩ := new_lst hl pin i r2; h _ _ _ _ n r⟩
    · cases g
  · cases g
def gTuple (ds : List D) : Option D := match ds with
  | [.lst _ xs] => if isImms xs = true then some (.tup xs) else none
  | [.tup xs] => if isImms xs = true then some (.tup xs) else none
  | _ => none
abbrev rTupleU (K : PySem.W.Frag) : List V → Hp → VK → Prop := fun xs H Q => ∃ p ys, xs = [.ref p] ∧ ((SqL K H p ys ∧ ∀ l, H l = none → Q (.ref l) (upd H l (.tup ys))) ∨ (SqT K H p ys ∧ Q (.ref p) H))
theorem new_tup {P : AS} {H : Hp} {p : Addr} {ds : List D} {vs : List V} (hp : H p = none) (i : isImms ds = true) (rs : Rls false K P H ds vs E_) :
    New P H (fun b => P b ∨ b = p) (upd H p (.tup vs)) E_ ∧ Rl true K (fun b => P b ∨ b = p) (upd H p (.tup vs)) (.tup ds) (.ref p) E_ :=
  ⟨New.tup hp, .tup upd_same (.inr rfl) (rls_mono (z := true) (F := E_) (rls_imm rs i) (fun _ q => .inl q) (fun b o e _ _ => by rw [upd_ne (ne_of_none e hp)]; exact e) fun _ z => z)⟩
theorem vTuple : VOpN K (rTupleU K) gTuple := by
  intro P H ds vs x Q pin rs g h
  unfold gTuple at g
  split at g
  · obtain ⟨v, rfl, r⟩ := rls1 rs
    split at g
    · rename_i i
      cases g
      obtain ⟨p, vs, rfl, e, r2⟩ := lst_read r
      exact ⟨p, vs, rfl, .inl ⟨.inl (.inl e), fun l hl => let ⟨n, r⟩ := new_tup hl i r2; h _ _ _ _ n r⟩⟩
    · cases g
  · obtain ⟨v, rfl, r⟩ := rls1 rs
    split at g
    · rename_i i
      cases g
      obtain ⟨p, vs, rfl, e, _, r2⟩ := tup_read r
      refine ⟨p, vs, rfl, .inr ⟨.inl (.inl e), h _ P H E_ New.refl (rl_imm r (by simpa only [isImm] using i))⟩⟩
    · cases g
  · cases g
def boolsD : List D → Option (List Bool)
  | [] => some []
  | .bl b :: ds => (boolsD ds).map (b :: ·)
  | _ :: _ => none
def strsD : List D → Option (List Str)
  | [] => some []
  | .str b :: ds => (strsD ds).map (b :: ·)
  | _ :: _ => none
omit [TabC] in
theorem boolsD_cons {d : D} {ds : List D} {bs : List Bool} (h : boolsD (d :: ds) = some bs) : ∃ b cs, d = .bl b ∧ boolsD ds = some cs ∧ bs = b :: cs := by
  cases d <;> simp only [boolsD] at h <;> try (cases h; done)
  cases e : boolsD ds with
  | none => rw [e] at h; cases h
  | some cs => rw [e] at h; cases h; exact ⟨_, cs, rfl, rfl, rfl⟩
theorem bools_rls {P : AS} {H : Hp} {z : Bool} : ∀ {ds : List D} {vs : List V} {F : AS} {bs : List Bool}, Rls z K P H ds vs F → boolsD ds = some bs → vs = bs.map V.bl
  | _, _, _, _, .nil, h => by cases h; rfl
  | _, _, _, _, .cons (d := d) (ds := ds) r rs _ _ _, h => by
    obtain ⟨b, cs, rfl, h2, rfl⟩ := boolsD_cons h
    rw [rl_bl r, bools_rls rs h2]; rfl
/-- the items of a list, read -/
def lstOf (d : D) : Option (List D) := match d with
  | .lst _ xs => some xs
  | .rol xs => some xs
  | _ => none
omit [TabC] in
theorem lstOf_read {P : AS} {H : Hp} {z : Bool} {d : D} {v : V} {F : AS} {xs : List D} (r : Rl z K P H d v F) (h : lstOf d = some xs) : ∃ p vs, v = .ref p ∧ SqL K H p vs ∧ Rls false K P H xs vs E_ := by
  unfold lstOf at h
  split at h
  · cases h; obtain ⟨p, vs, rfl, e, r2⟩ := lst_read r; exact ⟨p, vs, rfl, .inl (.inl e), r2⟩
  · cases h; obtain ⟨p, vs, rfl, e, r2⟩ := rol_read r; exact ⟨p, vs, rfl, e, r2⟩
  · cases h
def gAny (ds : List D) : Option D := match ds with
  | [d] => (lstOf d).bind fun xs => (boolsD xs).map fun bs => .bl (bs.any id)
  | _ => none
def gAll (ds : List D) : Option D := match ds with
  | [d] => (lstOf d).bind fun xs => (boolsD xs).map fun bs => .bl (bs.all id)
  | _ => none
theorem lst1 {α : Type} {P : AS} {H : Hp} {ds : List D} {vs : List V} {x : D} {f : List D → Option α} {k : α → D} {G : List D → Option D} (rs : Rls false K P H ds vs E_) (g : G ds = some x) (hG : ∀ ds, G ds = match ds with
  | [d] => (lstOf d).bind fun xs => (f xs).map k
  | _ => none) : ∃ p ws xs a, vs = [.ref p] ∧ SqL K H p ws ∧ Rls false K P H xs ws E_ ∧ f xs = some a ∧ x = k a := by
  rw [hG] at g
  split at g
  · rename_i d
    obtain ⟨v, rfl, r⟩ := rls1 rs
    cases e : lstOf d with
    | none => rw [e] at g; cases g
    | some xs =>
      rw [e] at g
      obtain ⟨p, ws, rfl, s, r2⟩ := lstOf_read r e
      cases e2 : f xs with
      | none => simp only [Option.bind, e2] at g; cases g
      | some a => simp only [Option.bind, e2] at g; cases g; exact ⟨p, ws, xs, a, rfl, s, r2, e2, rfl⟩
  · cases g
theorem vAll : VOpN K (rAll K) gAll := by
  intro P H ds vs x Q pin rs g h
  obtain ⟨p, ws, xs, bs, rfl, s, r, e, rfl⟩ := lst1 (f := boolsD) (k := fun bs => .bl (bs.all id)) (G := gAll) rs g (fun ds => by unfold gAll; rfl)
  rw [bools_rls r e] at s
  exact ⟨p, bs, rfl, s, h _ P H E_ New.refl .bl⟩
def gAbs (ds : List D) : Option D := match ds with
  | [.int i] => some (.int (if i < 0 then -i else i))
  | _ => none
theorem vAbs : VOpN K (fun xs H Q => ∃ i, xs = [.int i] ∧ Q (.int (if i < 0 then -i else i)) H) gAbs := by
  intro P H ds vs x Q pin rs g h
  unfold gAbs at g
  split at g
  · cases g
    obtain ⟨v, rfl, r⟩ := rls1 rs
    rw [rl_int r]
    exact ⟨_, rfl, h _ P H E_ New.refl .int⟩
  · cases g
def tyN (d : D) : String := match d with
  | .non => "NoneType"
  | .bl _ => "bool"
  | .int _ => "int"
  | .str _ => "str"
  | .lst _ _ => "list"
  | .rol _ => "list"
  | .tup _ => "tuple"
  | .dct _ _ _ => "dict"
  | .dcT _ _ _ => "dict"
  | .gv _ => "?"
  | .obj _ _ _ _ => "?"
/-- a thing whose type is not told here: a type, a dict that may be locked -/
def noTy (d : D) : Bool := match d with
  | .gv _ => true
  | .obj _ _ _ _ => true
  | .dct false _ _ => true
  | .dcT false _ _ => true
  | _ => false
def gIsi (ds : List D) : Option D := match ds with
  | [d, .gv (.ty n)] => if noTy d = true then none else (kitB (tyN d) n).map .bl
  | _ => none
omit [TabC] in
theorem ty_of {P : AS} {H : Hp} {d : D} {v : V} {z : Bool} {F : AS} (r : Rl z K P H d v F) (n : noTy d = false) : TyX K H v (.type (tyN d)) := by
  cases r with
  | non => exact .base .non
  | bl => exact .base (.bl _)
  | int => exact .base (.int _)
  | str => exact .base (.str _)
  | lstO e f s r => exact .base (.lst e)
  | lstI e p i r => exact .base (.lst e)
  | tup e p r => exact .base (.tup e)
  | dctO e k l f s r => exact .base (.dK e)
  | dctI e k l p i r => cases n
  | dcTO e k l f s r => exact .base (.dT e)
  | dcTI e k l p i r => cases n
  | rol e i r =>
    rcases e with ⟨_, e | ⟨o, e⟩⟩ | ⟨o, its, nn, e, c, _⟩
    · exact .base (.lst e)
    · exact .base (.frz e)
    · exact .kList e c
  | gv => cases n
  | objO e k l f s r => cases n
  | objI e k l p i r => cases n
theorem vIsi : VOpN K (rIsi K) gIsi := by
  intro P H ds vs x Q pin rs g h
  unfold gIsi at g
  split at g
  · rename_i d n
    split at g
    · cases g
    · rename_i ng
      cases e : kitB (tyN d) n with
      | none => rw [e] at g; cases g
      | some b =>
        rw [e] at g; cases g
        obtain ⟨v, w, _, _, rfl, r, r', _⟩ := rls2 rs
        cases r' with
        | gv => exact ⟨v, .ty n, _, _, b, rfl, .ty n, ty_of r (by simpa using ng), kit_ty e, h _ P H E_ New.refl .bl⟩
  · cases g
end
end Hap
namespace Hap
open PySem PySem.Spec PyProof.Rows L2
variable [TabC]
section
variable {X : Cx} {RX : RXR} {W : WX} {e : Expr} {es : List Expr} {pos p : Pos}
def fLst (f : Ev → R (List D)) : Ev → R D := fun ρ => (f ρ).bind fun ds ρ1 => if ds.length ≤ sizeLine then .ok (.lst true ds) ρ1 else .stk
def fTup (f : Ev → R (List D)) : Ev → R D := fun ρ => (f ρ).bind fun ds ρ1 => if ds.length ≤ sizeLine then .ok (.tup ds) ρ1 else .stk
theorem de_lst {f : Ev → R (List D)} (h : DA X RX W es f) : DE X RX W (.List es pos) (fLst f) := by
  refine pe_imp (pe_lst h) fun σ H Q q => ?_
  obtain ⟨P, ρ, FE, S, q⟩ := q
  refine ⟨P, ρ, FE, S, ?_⟩
  unfold fLst at q
  cases e : f ρ with
  | exc x ρ1 => simp only [e, R.bind] at q; exact q
  | stk => simp only [e, R.bind] at q
  | ok ds ρ1 =>
    simp only [e, R.bind] at q
    intro vs P1 H1 FE1 F1 S1 T1 t1
    by_cases c : ds.length ≤ sizeLine
    · simp only [if_pos c] at q
      refine ⟨by rw [← rls_len T1.rl]; exact c, fun a ha => ?_⟩
      have n : New P1 H1 P1 (upd H1 a (.lst vs)) (fun b => b = a) := New.lst ha S1.pin
      refine q (.ref a) P1 _ FE1 (fun b => F1 b ∨ b = a) (n.stt S1) ⟨.lstO (F' := F1) upd_same (fun _ => .inr rfl) (fun b z => ⟨.inl z, fun w => (T1.own b z).1 (by rw [w]; exact ha)⟩) (rls_mono T1.rl (fun _ q => q) (fun b o e _ => n.same b o e) fun _ q => q), fun b z => ?_⟩ ((t1.trans (n.tr (U0 := fun b => U FE1 b ∨ F1 b))).less fun b z => z.elim (fun z => .inl (.inl z)) fun z => z.elim (fun z => .inl (.inr z)) .inr)
      rcases z with z | z
      · exact ⟨n.alive b (T1.own b z).1, (T1.own b z).2⟩
      · subst z
        exact ⟨by rw [upd_same]; simp, fun w => S1.pin _ w ha, fun ⟨i, w⟩ => (S1.fin i _ w).1 ha⟩
    · simp only [if_neg c] at q
theorem de_tup {f : Ev → R (List D)} {x1} (h : DA X RX W es f) : DE X RX W (.Tuple es x1 pos) (fTup f) := by
  refine pe_imp (pe_tup h) fun σ H Q q => ?_
  obtain ⟨P, ρ, FE, S, q⟩ := q
  refine ⟨P, ρ, FE, S, ?_⟩
  unfold fTup at q
  cases e : f ρ with
  | exc x ρ1 => simp only [e, R.bind] at q; exact q
  | stk => simp only [e, R.bind] at q
  | ok ds ρ1 =>
    simp only [e, R.bind] at q
    intro vs P1 H1 FE1 F1 S1 T1 t1
    by_cases c : ds.length ≤ sizeLine
    · simp only [if_pos c] at q
      refine ⟨by rw [← rls_len T1.rl]; exact c, fun a ha => ?_⟩
      have n : New P1 H1 (fun b => P1 b ∨ b = a) (upd H1 a (.tup vs)) E_ := New.tup ha
      refine q (.ref a) _ _ FE1 F1 (n.stt S1) ⟨.tup upd_same (.inr rfl) (rls_mono T1.rl n.mono (fun b o e _ => n.same b o e) fun _ q => q), fun b z => ⟨n.alive b (T1.own b z).1, fun w => w.elim (T1.own b z).2.1 fun w => (T1.own b z).1 (by rw [w]; exact ha), (T1.own b z).2.2⟩⟩
        ((t1.trans (n.tr (U0 := fun b => U FE1 b ∨ F1 b))).less fun b z => .inl z)
    · simp only [if_neg c] at q
end
end Hap
namespace Hap
open PySem PySem.Spec PyProof.Rows L2
variable [TabC]
section
variable {K : PySem.W.Frag} {P : AS} {H : Hp} {FE : FP} {ρ : Ev} {σ : L2.St}
theorem slot_write {i : Nat} {p : Addr} {o u0 : HO} {d' : D} {F1 : AS} (S : Stt K P H ρ σ FE) (he : H p = some u0) (nd : Nd u0) (hv : σ[i]? = some (some (.ref p))) (hp : FE i p) (own : ∀ b, F1 b → H b ≠ none ∧ ¬ P b ∧ ¬ U FE b)
    (r : Rl true K P (upd H p o) d' (.ref p) (fun b => FE i b ∨ F1 b)) :
    Stt K P (upd H p o) (ρ.set i (some d')) σ (fun j b => FE j b ∨ (j = i ∧ F1 b)) ∧ Tr P H (fun b => U FE b ∨ F1 b) P (upd H p o) (U fun j b => FE j b ∨ (j = i ∧ F1 b)) := by
  have nP : ¬ P p := (S.fin i p hp).2
  have al : ∀ b, H b ≠ none → upd H p o b ≠ none := fun b h => by
    by_cases e : b = p
    · subst e; rw [upd_same]; simp
    · rw [upd_ne e]; exact h
  refine ⟨⟨fun b q => al b (S.pin b q), fun j b q => ?_, fun j k b q w => ?_, fun j d e => ?_, by simpa using S.len, tabs_write S.tab he nd⟩, ⟨fun b u e n nt => ?_, fun _ q => q, fun _ q => .inl q, fun b q => ?_, al⟩⟩
  · rcases q with q | q
    · exact ⟨al b (S.fin j b q).1, (S.fin j b q).2⟩
    · exact ⟨al b (own b q.2).1, (own b q.2).2.1⟩
  · rcases q with q | q <;> rcases w with w | w
    · exact S.dj j k b q w
    · exact ((own b w.2).2.2 ⟨j, q⟩).elim
    · exact ((own b q.2).2.2 ⟨k, w⟩).elim
    · exact q.1.trans w.1.symm
  · by_cases h : j = i
    · subst h
      have hl : j < ρ.length := by
        have := (List.getElem?_eq_some_iff.mp e).1
        simpa using this
      rw [List.getElem?_set_self hl] at e
      cases e
      exact ⟨_, hv, rl_mono r (fun _ q => q) (fun _ _ e _ _ => e) fun b q => q.imp id fun w => ⟨rfl, w⟩⟩
    · rw [List.getElem?_set_ne (Ne.symm h)] at e
      obtain ⟨v, e1, r1⟩ := S.rel j d e
      refine ⟨v, e1, rl_mono r1 (fun _ q => q) (fun b u e q _ => ?_) fun b q => .inl q⟩
      rw [upd_ne]
      · exact e
      · intro z; subst z
        exact (q rfl).elim nP fun w => h (S.dj _ _ _ w hp)
  · rw [upd_ne]
    · exact e
    · intro z; subst z; exact n (.inl ⟨i, hp⟩)
  · obtain ⟨j, q | q⟩ := q
    · exact .inl (.inl ⟨j, q⟩)
    · exact .inl (.inr q.2)
/-- what stands at a slot that is a list, a dict of one's own -/
theorem slot_lst {i : Nat} {xs : List D} (S : Stt K P H ρ σ FE) (e : ρ[i]? = some (some (.lst true xs))) : ∃ p vs F', σ[i]? = some (some (.ref p)) ∧ H p = some (.lst vs) ∧ FE i p ∧ (∀ b, F' b → FE i b ∧ b ≠ p) ∧ Rls true K P H xs vs F' := by
  obtain ⟨v, ev, r⟩ := S.rel i _ e
  cases r with
  | lstO h f s rs => exact ⟨_, _, _, ev, h, f rfl, s, rs⟩
theorem slot_dct {i : Nat} {ks : List Key} {xs : List D} (S : Stt K P H ρ σ FE) (e : ρ[i]? = some (some (.dct true ks xs))) : ∃ p vs F', σ[i]? = some (some (.ref p)) ∧ H p = some (.dK (ks.zip vs)) ∧ ks.length = vs.length ∧ FE i p ∧ (∀ b, F' b → FE i b ∧ b ≠ p) ∧ Rls true K P H xs vs F' := by
  obtain ⟨v, ev, r⟩ := S.rel i _ e
  cases r with
  | dctO h k l f s rs => subst k; exact ⟨_, _, _, ev, h, l, f rfl, s, rs⟩
theorem slot_dcT {i : Nat} {ks : List (List Key)} {xs : List D} (S : Stt K P H ρ σ FE) (e : ρ[i]? = some (some (.dcT true ks xs))) : ∃ p vs F', σ[i]? = some (some (.ref p)) ∧ H p = some (.dT (ks.zip vs)) ∧ ks.length = vs.length ∧ FE i p ∧ (∀ b, F' b → FE i b ∧ b ≠ p) ∧ Rls true K P H xs vs F' := by
  obtain ⟨v, ev, r⟩ := S.rel i _ e
  cases r with
  | dcTO h k l f s rs => subst k; exact ⟨_, _, _, ev, h, l, f rfl, s, rs⟩
omit [TabC] in
/-- the items stay while the list's own object is written -/
theorem rls_upd {p : Addr} {o : HO} {ds : List D} {vs : List V} {F' : AS} (rs : Rls true K P H ds vs F') (nP : ¬ P p) (nF : ¬ F' p) : Rls true K P (upd H p o) ds vs F' :=
  rls_mono rs (fun _ q => q) (fun b u e q _ => by
    rw [upd_ne]
    · exact e
    · intro z; subst z; exact (q rfl).elim nP nF) fun _ q => q
omit [TabC] in
theorem rl_upd {p : Addr} {o : HO} {d : D} {v : V} {F' : AS} (rs : Rl true K P H d v F') (nP : ¬ P p) (nF : ¬ F' p) : Rl true K P (upd H p o) d v F' :=
  rl_mono rs (fun _ q => q) (fun b u e q _ => by
    rw [upd_ne]
    · exact e
    · intro z; subst z; exact (q rfl).elim nP nF) fun _ q => q
omit [TabC] in
theorem rls_set {z : Bool} {d : D} {v : V} {F1 : AS} : ∀ {ds : List D} {vs : List V} {F F2 : AS} (j : Nat), Rls z K P H ds vs F2 → Rl z K P H d v F1 → (∀ b, F2 b → F b) → (∀ b, F1 b → F b) → (∀ b, F1 b → F2 b → False) → Rls z K P H (ds.set j d) (vs.set j v) F
  | _, _, _, _, _, .nil, _, _, _, _ => .nil
  | _, _, F, F2, 0, .cons (F1 := G1) (F2 := G2) r rs s1 s2 dj, q, t2, t1, dd => .cons (F1 := F1) (F2 := G2) q rs t1 (fun b z => t2 b (s2 b z)) fun b z w => dd b z (s2 b w)
  | _, _, F, F2, j + 1, .cons (F1 := G1) (F2 := G2) r rs s1 s2 dj, q, t2, t1, dd =>
    .cons (F1 := G1) (F2 := fun b => G2 b ∨ F1 b) r (rls_set j rs q (fun _ z => .inl z) (fun _ z => .inr z) fun b z w => dd b z (s2 b w)) (fun b z => t2 b (s1 b z)) (fun b z => z.elim (fun z => t2 b (s2 b z)) (t1 b)) fun b z w => w.elim (dj b z) fun w => dd b w (s1 b z)
end
def fAppend (i : Nat) (f : Ev → R (List D)) : Ev → RS := fun ρ => match ρ[i]? with
  | some (some (.lst _ _)) => RS.of (f ρ) fun ds ρ1 => (match ds with
    | [d] => (match ρ1[i]? with
      | some (some (.lst true xs)) => if xs.length < sizeLine then .nx (ρ1.set i (some (.lst true (xs ++ [d])))) else .stk
      | _ => .stk)
    | _ => .stk)
  | _ => .stk
def fSetL (i : Nat) (f k : Ev → R D) : Ev → RS := fun ρ => RS.of (f ρ) fun d ρ1 => match ρ1[i]? with
  | some (some _) => RS.of (k ρ1) fun e ρ2 => (match e with
    | .int n => (match ρ2[i]? with
      | some (some (.lst true xs)) => (match ixN xs.length n with
        | some j => .nx (ρ2.set i (some (.lst true (xs.set j d))))
        | none => .stk)
      | _ => .stk)
    | _ => .stk)
  | _ => .stk
def fAug (i : Nat) (g : D → D → Option D) (f : Ev → R D) : Ev → RS := fun ρ => match ρ[i]? with
  | some (some d0) => if isImm d0 = true then RS.of (f ρ) fun d ρ1 => (match g d0 d with
    | some x => .nx (ρ1.set i (some x))
    | none => .stk) else .stk
  | _ => .stk
section
variable {X : Cx} {RX : RXR} {W : WX} {kp : List Nat}
theorem ds_append {s : Stmt} {i : Nat} {f : Ev → R (List D)} (h : PS X s (tDrop (tBM X.K "list" rAppend (tVar i) (tA X.K RX W f)))) : DS X RX W kp s (fAppend i f) := by
  refine ps_imp h fun D σ H q => ?_
  obtain ⟨P, ρ, FE, S, q⟩ := q
  unfold fAppend at q
  split at q
  · rename_i o xs e0
    obtain ⟨v, ev, r⟩ := S.rel i _ e0
    obtain ⟨p, vs, rfl, e, rs⟩ := lst_read r
    refine ⟨.ref p, ev, .inl ⟨rfl, vs, .inl (.inl e)⟩, P, ρ, FE, S, ?_⟩
    cases e1 : f ρ with
    | exc x ρ1 => simp only [e1, RS.of] at q; exact fun cls dx P' H' FE' S' t r => q cls dx σ P' H' FE' S' t Kp.refl r
    | stk => simp only [e1, RS.of] at q; exact q.elim
    | ok ds ρ1 =>
      simp only [e1, RS.of] at q
      intro ws P1 H1 FE1 F1 S1 T1 t1
      split at q
      · rename_i d
        split at q
        · rename_i ys e2
          split at q
          · rename_i hl
            obtain ⟨p', vs', F', ev', h1, h2, h3, h4⟩ := slot_lst S1 e2
            rw [ev] at ev'; cases ev'
            obtain ⟨w, rfl, rw'⟩ := rls1 T1.rl
            have nP := (S1.fin i p h2).2
            have nF1 : ¬ F1 p := fun z => (T1.own p z).2.2 ⟨i, h2⟩
            have nF' : ¬ F' p := fun z => (h3 p z).2 rfl
            obtain ⟨S2, t2⟩ := slot_write (o := .lst (vs' ++ [w])) (d' := .lst true (ys ++ [d])) S1 h1 .lst ev h2 T1.own (.lstO (F' := fun b => F' b ∨ F1 b) upd_same (fun _ => .inl h2) (fun b z => z.elim (fun z => ⟨.inl (h3 b z).1, (h3 b z).2⟩) fun z => ⟨.inr z, fun w => nF1 (by rw [← w]; exact z)⟩)
              (rls_snoc (rls_upd h4 nP nF') (rl_upd rw' nP nF1) (fun _ z => .inl z) (fun _ z => .inr z) fun b z w => (T1.own b w).2.2 ⟨i, (h3 b z).1⟩))
            exact ⟨p, vs', w, rfl, rfl, h1, by rw [← rls_len h4]; exact hl, q σ P1 _ _ S2 (t1.trans t2) Kp.refl⟩
          · exact q.elim
        · exact q.elim
      · exact q.elim
  · exact q.elim
theorem ds_setL {s : Stmt} {i : Nat} {f k : Ev → R D} (h : PS X s (tAsg (tE X.K RX W f) (L2.gSub (tVar i) (tE X.K RX W k) rSetL))) : DS X RX W kp s (fSetL i f k) := by
  refine ps_imp h fun D σ H q => ?_
  obtain ⟨P, ρ, FE, S, q⟩ := q
  refine ⟨P, ρ, FE, S, ?_⟩
  unfold fSetL at q
  cases e : f ρ with
  | exc x ρ1 => simp only [e, RS.of] at q; exact fun cls dx P' H' FE' S' t r => q cls dx σ P' H' FE' S' t Kp.refl r
  | stk => simp only [e, RS.of] at q; exact q.elim
  | ok d ρ1 =>
    simp only [e, RS.of] at q
    intro v P1 H1 FE1 F1 S1 T1 t1
    split at q
    · rename_i d0 e0
      obtain ⟨vp, ev, _⟩ := S1.rel i _ e0
      refine ⟨vp, ev, P1, ρ1, FE1, S1, ?_⟩
      cases e1 : k ρ1 with
      | exc x ρ2 => simp only [e1] at q; exact fun cls dx P' H' FE' S' t r => q cls dx σ P' H' FE' S' (t1.less'.trans t) Kp.refl r
      | stk => simp only [e1] at q; exact q.elim
      | ok ee ρ2 =>
        simp only [e1] at q
        intro w P2 H2 FE2 F2 S2 T2 t2
        split at q
        · rename_i n
          split at q
          · rename_i xs e3
            split at q
            · rename_i j ej
              obtain ⟨p, vs, F', ev', h1, h2, h3, h4⟩ := slot_lst S2 e3
              rw [ev] at ev'; cases ev'
              obtain ⟨T1', _⟩ := T1.step S1 t2
              have nP := (S2.fin i p h2).2
              have nF1 : ¬ F1 p := fun z => (T1'.own p z).2.2 ⟨i, h2⟩
              have nF' : ¬ F' p := fun z => (h3 p z).2 rfl
              obtain ⟨S3, t3⟩ := slot_write (o := .lst (vs.set j v)) (d' := .lst true (xs.set j d)) S2 h1 .lst ev h2 T1'.own (.lstO (F' := fun b => F' b ∨ F1 b) upd_same (fun _ => .inl h2) (fun b z => z.elim (fun z => ⟨.inl (h3 b z).1, (h3 b z).2⟩) fun z => ⟨.inr z, fun w => nF1 (by rw [← w]; exact z)⟩)
                (rls_set j (rls_upd h4 nP nF') (rl_upd T1'.rl nP nF1) (fun _ z => .inl z) (fun _ z => .inr z) fun b z w => (T1'.own b z).2.2 ⟨i, (h3 b w).1⟩))
              rw [rl_int T2.rl]
              refine ⟨p, vs, n, j, rfl, rfl, h1, by rw [← rls_len h4]; exact ej, q σ P2 _ _ S3 ((t1.seq t2.less').trans ?_) Kp.refl⟩
              exact t3
            · exact q.elim
          · exact q.elim
        · exact q.elim
    · exact q.elim
end
end Hap
namespace Hap
open PySem PySem.Spec PyProof.Rows L2
variable [TabC]
def fChain (g g' : D → D → Option D) (fa fb fc : Ev → R D) : Ev → R D := fun ρ => (fa ρ).bind fun a ρ1 => (fb ρ1).bind fun b ρ2 => match g a b with
  | some (.bl k) => if k = true then (fc ρ2).bind fun c ρ3 => R.of (g' b c) ρ3 else .ok (.bl false) ρ2
  | _ => .stk
section
variable {K : PySem.W.Frag} {RX : RXR} {W : WX} {σ : L2.St} {H : Hp}
theorem e_chain {r r' : R2} {g g' : D → D → Option D} {fa fb fc : Ev → R D} (hv : VOp2 K r g) (hv' : VOp2 K r' g') {Q : VK} (q : tE K RX W (fChain g g' fa fb fc) σ H Q) : tChain r r' (tE K RX W fa) (tE K RX W fb) (tE K RX W fc) σ H Q := by
  obtain ⟨P, ρ, FE, S, q⟩ := q
  refine ⟨P, ρ, FE, S, ?_⟩
  unfold fChain at q
  cases e : fa ρ with
  | exc x ρ1 => simp only [e, R.bind] at q; exact q
  | stk => simp only [e, R.bind] at q
  | ok a ρ1 =>
    simp only [e, R.bind] at q
    intro va P1 H1 FE1 F1 S1 T1 t1
    refine ⟨P1, ρ1, FE1, S1, ?_⟩
    cases e1 : fb ρ1 with
    | exc x ρ2 => simp only [e1] at q; exact fun cls dx P2 H2 FE2 S2 t2 r => q cls dx P2 H2 FE2 S2 (t1.less'.trans t2) r
    | stk => simp only [e1] at q
    | ok b ρ2 =>
      simp only [e1] at q
      intro vb P2 H2 FE2 F2 S2 T2 t2
      have T1' := (T1.step S1 t2).1
      cases e2 : g a b with
      | none => simp only [e2] at q
      | some x =>
        cases x with
        | bl k =>
          simp only [e2] at q
          refine hv P2 H2 a b va vb _ _ S2.pin (rl_view T1'.rl) (rl_view T2.rl) e2 fun u P3 H3 F3 n3 r3 => ?_
          have S3 := n3.stt S2
          have t3 : Tr P H (U FE) P3 H3 (U FE2) := (t1.less'.trans t2.less').trans n3.tr.less'
          refine ⟨k, rl_bl r3, ?_⟩
          cases k with
          | false =>
            simp only [if_neg Bool.false_ne_true] at q ⊢
            exact q _ P3 H3 FE2 E_ S3 ⟨.bl, fun b z => z.elim⟩ (t3.less fun b z => z.elim id False.elim)
          | true =>
            simp only [if_pos] at q ⊢
            refine ⟨P3, ρ2, FE2, S3, ?_⟩
            cases e3 : fc ρ2 with
            | exc x ρ4 => simp only [e3] at q; exact fun cls dx P4 H4 FE4 S4 t4 r => q cls dx P4 H4 FE4 S4 (t3.trans t4) r
            | stk => simp only [e3] at q
            | ok c ρ4 =>
              simp only [e3] at q
              intro vc P4 H4 FE4 F4 S4 T4 t4
              have t24 : Tr P2 H2 (U FE2) P4 H4 (fun b => U FE4 b ∨ F4 b) := n3.tr.less'.trans t4
              have T2' := (T2.step S2 t24).1
              cases e4 : g' b c with
              | none => simp only [e4, R.of] at q
              | some x =>
                simp only [e4, R.of] at q
                exact hv' P4 H4 b c vb vc x Q S4.pin (rl_view T2'.rl) (rl_view T4.rl) e4 fun u P5 H5 F5 n r => q u P5 H5 FE4 F5 (n.stt S4) (n.tmp S4 r) ((t3.trans t4.less').trans n.tr)
        | _ => simp only [e2] at q
end
section
variable {X : Cx} {RX : RXR} {W : WX} {kp : List Nat} {a b c : Expr} {pos : Pos}
theorem de_chain {op op' : CmpOp} {r r' : R2} {g g' : D → D → Option D} {fa fb fc : Ev → R D} (ho : OpR X (compareOp op) r) (hv : VOp2 X.K r g) (ho' : OpR X (compareOp op') r') (hv' : VOp2 X.K r' g') (ha : DE X RX W a fa) (hb : DE X RX W b fb) (hc : DE X RX W c fc)
    (hm : lastMarks [op, op'] [b, c] = false := by with_unfolding_all rfl) : DE X RX W (.Compare a [op, op'] [b, c] pos) (fChain g g' fa fb fc) :=
  pe_imp (pe_chain ho ho' ha hb hc hm) fun σ H Q q => e_chain hv hv' q
theorem dt_chain {op op' : CmpOp} {r r' : R2} {g g' : D → D → Option D} {fa fb fc : Ev → R D} (ho : OpR X (compareOp op) r) (hv : VOp2 X.K r g) (ho' : OpR X (compareOp op') r') (hv' : VOp2 X.K r' g') (ha : DE X RX W a fa) (hb : DE X RX W b fb) (hc : DE X RX W c fc)
    (hm : lastMarks [op, op'] [b, c] = false := by with_unfolding_all rfl) : DT X RX W (.Compare a [op, op'] [b, c] pos) (fTb (fChain g g' fa fb fc)) :=
  pt_imp (pt_chain ho ho' ha hb hc hm) fun σ H Q q => e_chain hv hv' (t_val q)
def VMt (K : PySem.W.Frag) (T : String) (r : V → List V → Hp → VK → Prop) (g : D → List D → Option D) (ty : D → Bool) : Prop :=
  (∀ (P : AS) (H : Hp) (d : D) (v : V), Rl false K P H d v E_ → ty d = true → tyV K T v H) ∧
  ∀ (P : AS) (H : Hp) (d : D) (ds : List D) (v : V) (vs : List V) (x : D) (Q : VK), (∀ b, P b → H b ≠ none) → Rl false K P H d v E_ → Rls false K P H ds vs E_ → g d ds = some x → (∀ u P' H' F, New P H P' H' F → Rl true K P' H' x u F → Q u H') → r v vs H Q
def fMeth (ty : D → Bool) (g : D → List D → Option D) (fo : Ev → R D) (fa : Ev → R (List D)) : Ev → R D := fun ρ => (fo ρ).bind fun d ρ1 => if ty d = true then (fa ρ1).bind fun ds ρ2 => R.of (g d ds) ρ2 else .stk
theorem de_meth {e : Expr} {T : String} {r : V → List V → Hp → VK → Prop} {g : D → List D → Option D} {ty : D → Bool} {fo : Ev → R D} {fa : Ev → R (List D)} (hv : VMt X.K T r g ty) (h : PE X e (tBM X.K T r (tE X.K RX W fo) (tA X.K RX W fa))) : DE X RX W e (fMeth ty g fo fa) := by
  refine pe_imp h fun σ H Q q => ?_
  obtain ⟨P, ρ, FE, S, q⟩ := q
  refine ⟨P, ρ, FE, S, ?_⟩
  unfold fMeth at q
  cases e : fo ρ with
  | exc x ρ1 => simp only [e, R.bind] at q; exact q
  | stk => simp only [e, R.bind] at q
  | ok d ρ1 =>
    simp only [e, R.bind] at q
    intro v P1 H1 FE1 F1 S1 T1 t1
    by_cases c : ty d = true
    · simp only [if_pos c] at q
      refine ⟨hv.1 P1 H1 d v (rl_view T1.rl) c, P1, ρ1, FE1, S1, ?_⟩
      cases e1 : fa ρ1 with
      | exc x ρ2 => simp only [e1] at q; exact fun cls dx P2 H2 FE2 S2 t2 r => q cls dx P2 H2 FE2 S2 (t1.less'.trans t2) r
      | stk => simp only [e1] at q
      | ok ds ρ2 =>
        simp only [e1] at q
        intro vs P2 H2 FE2 F2 S2 T2 t2
        have T1' := (T1.step S1 t2).1
        cases e2 : g d ds with
        | none => simp only [e2, R.of] at q
        | some x =>
          simp only [e2, R.of] at q
          exact hv.2 P2 H2 d ds v vs x Q S2.pin (rl_view T1'.rl) (rls_view T2.rl) e2 fun u P3 H3 F3 n r => q u P3 H3 FE2 F3 (n.stt S2) (n.tmp S2 r) ((t1.less'.trans t2.less').trans n.tr)
    · simp only [if_neg c] at q
def isL (d : D) : Bool := match d with
  | .lst _ _ => true
  | .rol _ => true
  | _ => false
def idxP (z : PyData) : List PyData → Option Nat
  | [] => none
  | y :: ys => if PyData.eqv y z = true then some 0 else (idxP z ys).map (· + 1)
omit [TabC] in
theorem idxP_ok {z : PyData} : ∀ {ys : List PyData} {j : Nat}, idxP z ys = some j → ∃ y, ys[j]? = some y ∧ PyData.eqv y z = true ∧ ∀ (m : Nat) (z' : PyData), m < j → ys[m]? = some z' → PyData.eqv z' z = false
  | [], _, h => by simp [idxP] at h
  | y :: ys, j, h => by
    simp only [idxP] at h
    by_cases c : PyData.eqv y z = true
    · rw [if_pos c] at h; cases h
      exact ⟨y, rfl, c, fun m z' hm => absurd hm (Nat.not_lt_zero _)⟩
    · rw [if_neg c] at h
      cases e : idxP z ys with
      | none => rw [e] at h; cases h
      | some k =>
        rw [e] at h; cases h
        obtain ⟨y', h1, h2, h3⟩ := idxP_ok e
        refine ⟨y', by simpa using h1, h2, fun m z' hm hz => ?_⟩
        cases m with
        | zero => simp at hz; subst hz; simpa using c
        | succ m => exact h3 m z' (Nat.lt_of_succ_lt_succ hm) (by simpa using hz)
def gIndex (d : D) (ds : List D) : Option D := match ds with
  | [e] => (lstOf d).bind fun xs => if SeqAt.shaped (toPy e) = true ∧ SeqAt.shaped (.list (toPys xs)) = true then (idxP (toPy e) (toPys xs)).map fun (j : Nat) => .int (j : Int) else none
  | _ => none
theorem vIndex {K : PySem.W.Frag} : VMt K "list" (rIndexD K) gIndex isL := by
  refine ⟨fun P H d v r t => ?_, fun P H d ds v vs x Q pin r rs g h => ?_⟩
  · cases d with
    | lst o xs => obtain ⟨p, vs, rfl, e, _⟩ := lst_read r; exact .inl ⟨rfl, vs, .inl (.inl e)⟩
    | rol xs => obtain ⟨p, vs, rfl, e, _⟩ := rol_read r; exact .inl ⟨rfl, vs, e⟩
    | _ => cases t
  · unfold gIndex at g
    split at g
    · rename_i e
      obtain ⟨w, rfl, rw'⟩ := rls1 rs
      cases e1 : lstOf d with
      | none => rw [e1] at g; cases g
      | some xs =>
        simp only [e1, Option.bind] at g
        split at g
        · rename_i c
          cases e2 : idxP (toPy e) (toPys xs) with
          | none => rw [e2] at g; cases g
          | some j =>
            rw [e2] at g; cases g
            obtain ⟨p, ws, rfl, s, r2⟩ := lstOf_read r e1
            obtain ⟨y, h1, h2, h3⟩ := idxP_ok e2
            exact ⟨p, w, _, _, j, y, rfl, rfl, .lst s (dps_of r2 (by simpa only [PyData.canLay0] using shaped_lay c.2)), dp_of rw' (shaped_lay c.1), c.2, c.1, h1, h2, h3, h _ P H E_ New.refl .int⟩
        · cases g
    · cases g
/-- sep.join(texts) -/
def gJoin (d : D) (e : D) : Option D := match d with
  | .str a => (lstOf e).bind fun xs => (strsD xs).bind fun ys => if (ys.map (·.length)).sum + ys.length * a.length ≤ 16777216 then some (.str (Txt.join a ys)) else none
  | _ => none
def fJoin (fo fa : Ev → R D) : Ev → R D := fun ρ => (fo ρ).bind fun d ρ1 => match d with
  | .str _ => (fa ρ1).bind fun e ρ2 => R.of (gJoin d e) ρ2
  | _ => .stk
def tO (K : PySem.W.Frag) (RX : RXR) (W : WX) (f : Ev → R (Option Int)) : TO := fun σ H Q => ∃ P ρ FE, Stt K P H ρ σ FE ∧ match f ρ with
  | .ok i ρ' => ∀ P' H' FE', Stt K P' H' ρ' σ FE' → Tr P H (U FE) P' H' (U FE') → Q i H'
  | .exc x ρ' => ∀ cls dx P' H' FE', Stt K P' H' ρ' σ FE' → Tr P H (U FE) P' H' (U FE') → RX x P' H' cls dx → W cls dx σ H'
  | .stk => False
abbrev DO (X : Cx) (RX : RXR) (W : WX) (e : Option Expr) (f : Ev → R (Option Int)) : Prop := PO X e (tO X.K RX W f)
def fO (f : Ev → R D) : Ev → R (Option Int) := fun ρ => (f ρ).bind fun d ρ1 => match d with
  | .int i => .ok (some i) ρ1
  | _ => .stk
theorem do_none : DO X RX W none (fun ρ => .ok none ρ) := ⟨fun pins s σ H Q I ⟨P, ρ, FE, S, q⟩ => po_none.run pins s σ H Q I (q P H FE S Tr.refl)⟩
theorem do_some {e : Expr} {f : Ev → R D} (h : DE X RX W e f) : DO X RX W (some e) (fO f) := by
  refine ⟨fun pins s σ H Q I q => (po_some h).run pins s σ H Q I ?_⟩
  obtain ⟨P, ρ, FE, S, q⟩ := q
  refine ⟨P, ρ, FE, S, ?_⟩
  unfold fO at q
  cases e : f ρ with
  | exc x ρ1 => simp only [e, R.bind] at q; exact q
  | stk => simp only [e, R.bind] at q
  | ok d ρ1 =>
    simp only [e, R.bind] at q
    intro v P1 H1 FE1 F1 S1 T1 t1
    cases d with
    | int i => exact ⟨_, rl_int T1.rl, q P1 H1 FE1 S1 t1.less'⟩
    | _ => simp only at q
def cutD (xs : List D) (lo hi : Option Int) : List D := (xs.drop (HT.sIx xs.length 0 lo)).take (HT.sIx xs.length xs.length hi - HT.sIx xs.length 0 lo)
def gSl (d : D) (lo hi : Option Int) : Option D := match d with
  | .lst _ xs => if isImms xs = true then some (.lst true (cutD xs lo hi)) else none
  | .str z => if z.length ≤ sizeLine then some (.str (cutS z lo hi)) else none
  | .tup xs => if isImms xs = true ∧ ¬ (HT.sIx xs.length 0 lo = 0 ∧ HT.sIx xs.length xs.length hi = xs.length) then some (.tup (cutD xs lo hi)) else none
  | _ => none
def fSl (f : Ev → R D) (l u : Ev → R (Option Int)) : Ev → R D := fun ρ => (f ρ).bind fun d ρ1 => (l ρ1).bind fun lo ρ2 => (u ρ2).bind fun hi ρ3 => R.of (gSl d lo hi) ρ3
abbrev rSlU (K : PySem.W.Frag) : V → Option Int → Option Int → Hp → VK → Prop := fun x lo hi H Q => rSlL K x lo hi H Q ∨ rSlS x lo hi H Q ∨ rSlT K x lo hi H Q
omit [TabC] in
theorem sl_U : SlR X (rSlU X.K) := sl_list.or (sl_str.or sl_tup)
omit [TabC] in
theorem isImms_drop : ∀ {xs : List D} (n : Nat), isImms xs = true → isImms (xs.drop n) = true
  | xs, 0, h => by simpa using h
  | [], _ + 1, h => by simpa using h
  | _ :: _, n + 1, h => by
    simp only [isImms, Bool.and_eq_true] at h
    exact isImms_drop n h.2
omit [TabC] in
theorem isImms_take : ∀ {xs : List D} (n : Nat), isImms xs = true → isImms (xs.take n) = true
  | _, 0, h => by simp [isImms]
  | [], _ + 1, h => by simpa using h
  | _ :: _, n + 1, h => by
    simp only [isImms, Bool.and_eq_true, List.take_succ_cons] at h ⊢
    exact ⟨h.1, isImms_take n h.2⟩
omit [TabC] in
theorem rls_drop {K : PySem.W.Frag} {P : AS} {H : Hp} : ∀ {ds : List D} {vs : List V} (n : Nat), Rls false K P H ds vs E_ → Rls false K P H (ds.drop n) (vs.drop n) E_
  | _, _, 0, h => by simpa using h
  | _, _, _ + 1, .nil => by simpa using Rls.nil
  | _, _, n + 1, .cons r rs s1 s2 dj => rls_drop n (rls_view rs)
omit [TabC] in
theorem rls_take {K : PySem.W.Frag} {P : AS} {H : Hp} : ∀ {ds : List D} {vs : List V} (n : Nat), Rls false K P H ds vs E_ → Rls false K P H (ds.take n) (vs.take n) E_
  | _, _, 0, h => by simpa using Rls.nil
  | _, _, _ + 1, .nil => by simpa using Rls.nil
  | _, _, n + 1, .cons r rs s1 s2 dj => .cons (F1 := E_) (F2 := E_) (rl_view r) (rls_take n (rls_view rs)) (fun _ z => z) (fun _ z => z) fun _ z => z.elim
theorem cut_rls {K : PySem.W.Frag} {P : AS} {H : Hp} {xs : List D} {vs : List V} {lo hi : Option Int} (rs : Rls false K P H xs vs E_) : Rls false K P H (cutD xs lo hi) (cutV vs lo hi) E_ := by
  unfold cutD cutV
  rw [← rls_len rs]
  exact rls_take _ (rls_drop _ rs)
theorem de_slice {e : Expr} {lo hi : Option Expr} {p2 : Pos} {f : Ev → R D} {l u : Ev → R (Option Int)} (h : DE X RX W e f) (hl : DO X RX W lo l) (hu : DO X RX W hi u) : DE X RX W (.Subscript e (.Slice lo hi none p2) pos) (fSl f l u) := by
  refine pe_imp (pe_slice sl_U h hl hu) fun σ H Q q => ?_
  obtain ⟨P, ρ, FE, S, q⟩ := q
  refine ⟨P, ρ, FE, S, ?_⟩
  unfold fSl at q
  cases e : f ρ with
  | exc x ρ1 => simp only [e, R.bind] at q; exact q
  | stk => simp only [e, R.bind] at q
  | ok d ρ1 =>
    simp only [e, R.bind] at q
    intro v P1 H1 FE1 F1 S1 T1 t1
    refine ⟨P1, ρ1, FE1, S1, ?_⟩
    cases e1 : l ρ1 with
    | exc x ρ2 => simp only [e1] at q; exact fun cls dx P2 H2 FE2 S2 t2 r => q cls dx P2 H2 FE2 S2 (t1.less'.trans t2) r
    | stk => simp only [e1] at q
    | ok lo ρ2 =>
      simp only [e1] at q
      intro P2 H2 FE2 S2 t2
      have T2 := (T1.step (F := E_) S1 (t2.less fun b z => z.elim id False.elim)).1
      refine ⟨P2, ρ2, FE2, S2, ?_⟩
      cases e2 : u ρ2 with
      | exc x ρ3 => simp only [e2] at q; exact fun cls dx P3 H3 FE3 S3 t3 r => q cls dx P3 H3 FE3 S3 ((t1.less'.trans t2).trans t3) r
      | stk => simp only [e2] at q
      | ok hi ρ3 =>
        simp only [e2] at q
        intro P3 H3 FE3 S3 t3
        have T3 := (T2.step (F := E_) S2 (t3.less fun b z => z.elim id False.elim)).1
        have tt := (t1.less'.trans t2).trans t3
        have rv := rl_view (F' := E_) T3.rl
        cases e3 : gSl d lo hi with
        | none => simp only [e3, R.of] at q
        | some x =>
          simp only [e3, R.of] at q
          have fin : ∀ u P' H' F, New P3 H3 P' H' F → Rl true X.K P' H' x u F → Q u H' := fun u P' H' F n r => q u P' H' FE3 F (n.stt S3) (n.tmp S3 r) (tt.trans n.tr)
          unfold gSl at e3
          split at e3
          · split at e3
            · rename_i i
              cases e3
              obtain ⟨p, vs, rfl, e, rs⟩ := lst_read rv
              refine .inl ⟨p, vs, rfl, .inl (.inl e), fun a ha => ?_⟩
              obtain ⟨n, r⟩ := new_lst ha S3.pin (isImms_take _ (isImms_drop _ i)) (cut_rls rs)
              exact fin _ _ _ _ n r
            · cases e3
          · split at e3
            · rename_i c
              cases e3
              rw [rl_str T3.rl]
              exact .inr (.inl ⟨_, rfl, c, fin _ P3 H3 E_ New.refl .str⟩)
            · cases e3
          · split at e3
            · rename_i c
              cases e3
              obtain ⟨p, vs, rfl, e, _, rs⟩ := tup_read rv
              refine .inr (.inr ⟨p, vs, rfl, .inl (.inl e), by rw [← rls_len rs]; exact c.2, fun a ha => ?_⟩)
              obtain ⟨n, r⟩ := new_tup ha (isImms_take _ (isImms_drop _ c.1)) (cut_rls rs)
              exact fin _ _ _ _ n r
            · cases e3
          · cases e3
end
end Hap
namespace Hap
open PySem PySem.Spec PyProof.Rows L2
variable [TabC]
def fK (d : D) : Ev → R D := fun ρ => .ok d ρ
def vK (d : D) : Ev → Option D := fun _ => some d
def fO0 : Ev → R (Option Int) := fun ρ => .ok none ρ
def fYes : Ev → R Bool := fun ρ => .ok true ρ
def vLst (f : Ev → Option (List D)) : Ev → Option D := fun ρ => (f ρ).bind fun ds => if ds.length ≤ sizeLine then some (.lst true ds) else none
def vTup (f : Ev → Option (List D)) : Ev → Option D := fun ρ => (f ρ).bind fun ds => if ds.length ≤ sizeLine then some (.tup ds) else none
/-- taken out of its slot (what is no one's own stays there, too) -/
def takeS (i : Nat) (ρ : Ev) : R D := match ρ[i]? with
  | some (some d) => .ok d (if isImm d = true then ρ else ρ.set i none)
  | _ => .stk
def fMv (i : Nat) : Ev → R D := takeS i
def fConsL (i : Nat) (g : Ev → R (List D)) : Ev → R (List D) := fun ρ => match ρ[i]? with
  | some (some _) => (g ρ).bind fun ds ρ2 => (takeS i ρ2).bind fun d ρ3 => .ok (d :: ds) ρ3
  | _ => .stk
/-- the left operand a name, looked at behind the right one -/
def fOp2L (g : D → D → Option D) (i : Nat) (k : Ev → R D) : Ev → R D := fun ρ => match ρ[i]? with
  | some (some _) => (k ρ).bind fun e ρ1 => (match ρ1[i]? with
    | some (some d) => R.of (g d e) ρ1
    | _ => .stk)
  | _ => .stk
section
variable {K : PySem.W.Frag} {P : AS} {H : Hp} {FE : FP} {ρ : Ev} {σ : L2.St}
theorem Stt.take {i : Nat} {d : D} (S : Stt K P H ρ σ FE) (e : ρ[i]? = some (some d)) (hi : isImm d = false) : Stt K P H (ρ.set i none) σ (fun j b => j ≠ i ∧ FE j b) ∧
    ∃ v, σ[i]? = some (some v) ∧ Tmp K P H (fun j b => j ≠ i ∧ FE j b) d v (FE i) := by
  obtain ⟨v, ev, r⟩ := S.rel i d e
  refine ⟨⟨S.pin, fun j b q => S.fin j b q.2, fun j k b q w => S.dj j k b q.2 w.2, fun j d' e' => ?_, by simpa using S.len, S.tab⟩, v, ev, r, fun b q => ⟨(S.fin i b q).1, (S.fin i b q).2, fun ⟨j, w⟩ => w.1 (S.dj j i b w.2 q)⟩⟩
  by_cases hj : j = i
  · subst hj
    have hl : j < ρ.length := (List.getElem?_eq_some_iff.mp e).1
    rw [List.getElem?_set_self hl] at e'
    cases e'
  · rw [List.getElem?_set_ne (Ne.symm hj)] at e'
    obtain ⟨w, e1, r1⟩ := S.rel j d' e'
    exact ⟨w, e1, rl_mono r1 (fun _ q => q) (fun _ _ e _ _ => e) fun b q => ⟨hj, q⟩⟩
/-- a slot's thing is taken -/
theorem takeS_ok {i : Nat} {d : D} {ρ1 : Ev} (S : Stt K P H ρ σ FE) (e : takeS i ρ = .ok d ρ1) : ∃ v FE' F, σ[i]? = some (some v) ∧ Stt K P H ρ1 σ FE' ∧ Tmp K P H FE' d v F ∧ (∀ b, U FE' b ∨ F b → U FE b) := by
  unfold takeS at e
  split at e
  · rename_i d' e0
    cases e
    by_cases hi : isImm d = true
    · rw [if_pos hi]
      obtain ⟨v, ev, r⟩ := S.rel i d e0
      exact ⟨v, FE, E_, ev, S, ⟨rl_imm r hi, fun b z => z.elim⟩, fun b z => z.elim id False.elim⟩
    · rw [if_neg hi]
      obtain ⟨S2, v, ev, T⟩ := S.take e0 (by simpa using hi)
      exact ⟨v, _, FE i, ev, S2, T, fun b z => z.elim (fun ⟨j, w⟩ => ⟨j, w.2⟩) fun w => ⟨i, w⟩⟩
  · cases e
end
section
variable {X : Cx} {RX : RXR} {W : WX} {e : Expr} {es : List Expr} {pos : Pos}
theorem de_k {v : V} {d : D} (h : PE X e (tC v)) (r : ∀ P H, Rl true X.K P H d v E_) : DE X RX W e (fK d) := de_con h r
theorem dv_k {v : V} {d : D} (h : PE X e (tC v)) (r : ∀ P H, Rl true X.K P H d v E_) : DV X e (vK d) := dv_con h r
theorem do_0 : DO X RX W none fO0 := do_none
theorem dts_0 : PTs X [] (tT X.K RX W fYes) := dts_nil
theorem dv_lst {f : Ev → Option (List D)} (h : DAV X es f) : DV X (.List es pos) (vLst f) := by
  refine pe_imp (pe_lst h) fun σ H Q q => ?_
  obtain ⟨P, ρ, FE, S, q⟩ := q
  refine ⟨P, ρ, FE, S, ?_⟩
  unfold vLst at q
  cases e : f ρ with
  | none => simp only [e, Option.bind] at q
  | some ds =>
    simp only [e, Option.bind] at q
    intro vs P1 H1 n1 r1
    by_cases c : ds.length ≤ sizeLine
    · simp only [if_pos c] at q
      refine ⟨by rw [← rls_len r1]; exact c, fun a ha => ?_⟩
      have n : New P1 H1 P1 (upd H1 a (.lst vs)) (fun b => b = a) := New.lst ha (n1.stt S).pin
      exact q (.ref a) P1 _ (n1.trans_ n.less_) (.lstO (F' := E_) upd_same (fun z => by cases z) (fun b z => z.elim) (rls_mono r1 (fun _ q => q) (fun b o e _ => n.same b o e) fun _ q => q))
    · simp only [if_neg c] at q
theorem dv_tup {f : Ev → Option (List D)} {x1} (h : DAV X es f) : DV X (.Tuple es x1 pos) (vTup f) := by
  refine pe_imp (pe_tup h) fun σ H Q q => ?_
  obtain ⟨P, ρ, FE, S, q⟩ := q
  refine ⟨P, ρ, FE, S, ?_⟩
  unfold vTup at q
  cases e : f ρ with
  | none => simp only [e, Option.bind] at q
  | some ds =>
    simp only [e, Option.bind] at q
    intro vs P1 H1 n1 r1
    by_cases c : ds.length ≤ sizeLine
    · simp only [if_pos c] at q
      refine ⟨by rw [← rls_len r1]; exact c, fun a ha => ?_⟩
      have n : New P1 H1 (fun b => P1 b ∨ b = a) (upd H1 a (.tup vs)) E_ := New.tup ha
      exact q (.ref a) _ _ (n1.trans_ n) (.tup upd_same (.inr rfl) (rls_mono r1 (fun _ q => .inl q) (fun b o e _ => n.same b o e) fun _ q => q))
    · simp only [if_neg c] at q
theorem de_mv {i : Nat} (h : PE X e (tVar i)) : DE X RX W e (fMv i) := by
  refine pe_imp h fun σ H Q q => ?_
  obtain ⟨P, ρ, FE, S, q⟩ := q
  unfold fMv at q
  cases e : takeS i ρ with
  | exc x ρ1 => simp only [takeS] at e; split at e <;> cases e
  | stk => simp only [e] at q
  | ok d ρ1 =>
    simp only [e] at q
    obtain ⟨v, FE', F, ev, S', T, hU⟩ := takeS_ok S e
    exact ⟨v, ev, q v P H FE' F S' T (Tr.refl.less hU)⟩
theorem da_consL {i : Nat} {g : Ev → R (List D)} (h : PE X e (tVar i)) (t : DA X RX W es g) (hs : starEach (e :: es) X.env = (false, eval e X.env) :: starEach es X.env := by rfl) : DA X RX W (e :: es) (fConsL i g) := by
  refine pa_imp (pa_cons h t hs) fun σ H Q q => ?_
  obtain ⟨P, ρ, FE, S, q⟩ := q
  unfold fConsL at q
  cases e0 : ρ[i]? with
  | none => simp only [e0] at q
  | some o =>
    cases o with
    | none => simp only [e0] at q
    | some d0 =>
      simp only [e0] at q
      obtain ⟨v, ev, _⟩ := S.rel i d0 e0
      refine ⟨v, ev, P, ρ, FE, S, ?_⟩
      cases e1 : g ρ with
      | exc x ρ1 => simp only [e1, R.bind] at q; exact q
      | stk => simp only [e1, R.bind] at q
      | ok ds ρ2 =>
        simp only [e1, R.bind] at q
        intro vs P2 H2 FE2 F2 S2 T2 t2
        cases e2 : takeS i ρ2 with
        | exc x ρ1 => simp only [takeS] at e2; split at e2 <;> cases e2
        | stk => simp only [e2] at q
        | ok d ρ3 =>
          simp only [e2] at q
          obtain ⟨v', FE', F, ev', S', T, hU⟩ := takeS_ok S2 e2
          rw [ev] at ev'; cases ev'
          refine q (v :: vs) P2 H2 FE' (fun b => F b ∨ F2 b) S' ⟨.cons T.rl T2.rl (fun b z => .inl z) (fun b z => .inr z) (fun b z w => (T2.own b w).2.2 (hU b (.inr z))), fun b z => z.elim (T.own b) fun z => ⟨(T2.own b z).1, (T2.own b z).2.1, fun w => (T2.own b z).2.2 (hU b (.inl w))⟩⟩ (t2.less fun b z => ?_)
          rcases z with z | z | z
          · exact .inl (hU b (.inl z))
          · exact .inl (hU b (.inr z))
          · exact .inr z
variable {a b : Expr}
end
section
variable {X : Cx} {x : Str} {pos : Pos}
omit [TabC] in
theorem pe_globS {t : Str} (hg : Gl X x) (h : ∃ k, X.mg x = some (.str t k)) (hd : (x == ("__debug__" : Str)) = false := by decide) : PE X (.Name x pos) (tC (.str t)) := by
  obtain ⟨k, h⟩ := h
  exact pe_glob hg h ⟨k, rfl⟩ hd
omit [TabC] in
theorem pe_globI {i : Int} (hg : Gl X x) (h : ∃ k, X.mg x = some (.int i k)) (hd : (x == ("__debug__" : Str)) = false := by decide) : PE X (.Name x pos) (tC (.int i)) := by
  obtain ⟨k, h⟩ := h
  exact pe_glob hg h ⟨k, rfl⟩ hd
end
structure Cal (P : Program) (w : World) (K : PySem.W.Frag) (mg : Str → Option Value) (base : Heap) (RX : RXR) (x : Str) (k : Nat) (io : List Bool) (sem : Fn) : Prop where
  ex : ∃ f fd ps, FnOk P w K mg base (L2N.CX P w) k f fd ps (spD K RX io sem) ∧ mg x = some (.ref f) ∧ PySem.W.keepIn K (.ref f) = true ∧ Binds K fd ps []
omit [TabC] in
theorem room65 {k : Nat} {A : Around} (r : Room k A) : A.units + 65 < cLine := by have := r.un; omega
omit [TabC] in
theorem room64 {k : Nat} {A : Around} (r : Room k A) : A.units + 64 < cLine := by have := r.un; omega
omit [TabC] in
theorem room1 {k : Nat} {A : Around} (r : Room k A) : A.units + 1 < cLine := by have := r.un; omega
section
variable {X : Cx} {RX : RXR} {W : WX} {k j n : Nat} {sem : Fn} {x : Str} {p pos : Pos} {e : Expr} {es : List Expr} {fa : Ev → R (List D)}
theorem de_callC (C : Cal X.prog X.w X.K X.mg X.base RX x j (List.replicate n false) sem) (hr : Room k X.A) (hj : j ≤ k) (hg : Gl X x) (tk : L2N.Takes X W) (ha : DA X RX W (e :: es) fa) (hdb : (x == ("__debug__" : Str)) = false := by decide)
    (he : starEach (e :: es) X.env = (false, eval e X.env) :: starEach es X.env := by rfl) (hpl : (backTo pos (starEach es X.env)).any (·.1) = false := by rfl) : DE X RX W (.Call (.Name x p) (e :: es) [] pos) (fCall n sem fa) := by
  obtain ⟨f, fd, ps, F, hm, hk, hb⟩ := C.ex
  exact de_call F (hr.mono hj) hg hm hk hb tk ha hdb he hpl
theorem de_callIOC {i m : Nat} (C : Cal X.prog X.w X.K X.mg X.base RX x j (true :: List.replicate m false) sem) (hr : Room k X.A) (hj : j ≤ k) (hg : Gl X x) (tk : L2N.Takes X W) (hv : PE X e (tVar i)) (ha : DA X RX W es fa) (hdb : (x == ("__debug__" : Str)) = false := by decide)
    (he : starEach (e :: es) X.env = (false, eval e X.env) :: starEach es X.env := by rfl) (hpl : (backTo pos (starEach es X.env)).any (·.1) = false := by rfl) : DE X RX W (.Call (.Name x p) (e :: es) [] pos) (fCallIO i (m + 1) sem fa) := by
  obtain ⟨f, fd, ps, F, hm, hk, hb⟩ := C.ex
  exact de_callIO F (hr.mono hj) hg hm hk hb tk hv ha hdb he hpl
end
end Hap
namespace Hap
open PySem PySem.Spec PyProof.Rows L2
variable [TabC]
abbrev RX0 : RXR := fun _ _ _ _ _ => False
omit [TabC] in
theorem rls_ints {z : Bool} {K : PySem.W.Frag} {P : AS} {H : Hp} {F : AS} : ∀ ns : List Int, Rls z K P H (ns.map D.int) (ns.map V.int) F
  | [] => .nil
  | n :: ns => .cons (F1 := fun _ => False) (F2 := fun _ => False) .int (rls_ints ns) (fun b z => z.elim) (fun b z => z.elim) fun b z => z.elim
omit [TabC] in
theorem imms_ints : ∀ ns : List Int, isImms (ns.map D.int) = true
  | [] => rfl
  | n :: ns => by
    show (isImm (.int n) && isImms (ns.map D.int)) = true
    rw [imms_ints ns]; rfl
theorem law_sp {K : PySem.W.Frag} {RX : RXR} {sem : Fn} {a : Addr} {ns : List Int} {H : Hp} (hT : LamX.Tabs TabC.T H) (hS : SqL K H a (ns.map V.int)) (h : ∃ o, sem [.rol (ns.map D.int)] = .rt (.bl true) o) :
    spD K RX (List.replicate 1 false) sem [.ref a] H (fun v _ => v = .bl true) fun _ _ _ => False := by
  obtain ⟨o, h⟩ := h
  have hR : Rol K H (fun b => H b ≠ none) a (ns.map V.int) := by
    rcases hS with (h1 | ⟨o1, h1⟩) | h1
    · exact .inl ⟨by show H a ≠ none; rw [h1]; simp, .inl h1⟩
    · exact .inl ⟨by show H a ≠ none; rw [h1]; simp, .inr ⟨o1, h1⟩⟩
    · exact .inr h1
  refine ⟨rfl, fun b => H b ≠ none, [.rol (ns.map D.int)], fun _ => E_, ⟨fun b z => z, fun i b z => z.elim, fun i j b z => z.elim, fun i d e => ?_, rfl, hT⟩, fun i _ b z => z.elim, ?_⟩
  · match i, e with
    | 0, e =>
      cases e
      exact ⟨_, rfl, .rol hR (imms_ints ns) (rls_ints ns)⟩
    | i + 1, e => simp at e
  · simp only [h]
    intro v P' H' FA' F S T t
    cases T.rl
    rfl
omit [TabC] in
theorem hCX0 {P : Program} {w : World} {H : Hp} {s : Shared} {e : Value} {s' : Shared} (h : L2N.CX P w [] H s (fun _ _ _ => False) e s') : False := by
  obtain ⟨_, _, _, _, _, _, _, _, _, _, _, _, z⟩ := h
  exact z.elim
theorem walkD {l : PySem.W.OpenLaw} {k : Nat} {q : Program} {loose : List Str} {XP : (Str → Option Value) → Heap → Prop} {YP : World → Heap → Prop} {d : DefRec} {K : Params → PySem.W.Frag} {x : Str} {sem : Fn} {RX : RXR} (hT0 : TabC.T = []) (hn : l.most = some 63) (hdf : d.params.defaults = [])
    (hk : k ≤ 60) (hY : ∀ (w : World) (h : Heap), YP w h → (K w.params).In h)
    (F : ∀ (w : World) (mg : Str → Option Value) (fa : Addr) (h : Heap), (K w.params).In h → h.Ns mainGlobals mg → mg d.name = some (.ref fa) →
      ∃ fd : FuncData, (∀ (s : Shared) (u : Value), BindsTo s fd ⟨[u], []⟩ [(x, u)]) ∧ ∀ base : Heap, (K w.params).In base → base.Ns mainGlobals mg → FnOk l.prog w (K w.params) mg base (L2N.CX l.prog w) k fa fd [x] (spD (K w.params) RX (List.replicate 1 false) sem))
    (hm : ∀ ns : List Int, ns.length ≤ 63 → ∃ o, sem [.rol (ns.map D.int)] = .rt (.bl true) o) :
    PySem.W.WalkO q loose XP YP l.row.toRowW d [] (fun f vs => PySem.call f vs) :=
  L2.walk_of (n := 63) (k := k) (x := x) (CX := fun w => L2N.CX l.prog w) (sp := fun w => spD (K w.params) RX (List.replicate 1 false) sem) hn (by decide) hdf (Room.mono (k := 60) ⟨rfl, by decide, by decide⟩ hk) hY F
    (fun w H a ns hl hO hS => law_sp (fun p hp => by rw [hT0] at hp; exact absurd hp (by simp)) hS (hm ns hl)) fun w H s e s' h => hCX0 h
instance (priority := low) noTab : TabC := ⟨[]⟩
end Hap
namespace Hap
open PySem PySem.Spec PyProof.Rows L2
def RS.seq (r : RS) (k : Ev → RS) : RS := match r with
  | .nx ρ' => k ρ'
  | .rt d ρ' => .rt d ρ'
  | .bk ρ' => .bk ρ'
  | .ct ρ' => .ct ρ'
  | .exc x ρ' => .exc x ρ'
  | .stk => .stk
def varR (o : Option (Option D)) (i : Nat) (ρ : Ev) : R D := match o with
  | some (some d) => .ok (frz d) (ρ.set i (some (frz d)))
  | _ => .stk
def varV (o : Option (Option D)) : Option D := match o with
  | some (some d) => some d
  | _ => none
def immR (o : Option D) (ρ : Ev) : R D := match o with
  | some d => if isImm d = true then .ok d ρ else .stk
  | none => .stk
def tgR (o : Option Ev) (k : Ev → RS) : RS := match o with
  | some ρ => k ρ
  | none => .stk
def blV (o : Option D) (ρ : Ev) : R Bool := match o with
  | some (.bl b) => .ok b ρ
  | _ => .stk
def takeR (o : Option (Option D)) (i : Nat) (ρ : Ev) : R D := match o with
  | some (some d) => .ok d (if isImm d = true then ρ else ρ.set i none)
  | _ => .stk
def rfOf (io : List Bool) (r : RS) : RF := match r with
  | .nx ρ => .rt .non (outsOf io ρ)
  | .rt d ρ => .rt d (outsOf io ρ)
  | .exc x ρ => .exc x (outsOf io ρ)
  | _ => .stk
section
variable {α β : Type} {ρ ρ' : Ev} {d : D} {x : DX}
theorem semOf_ap {io n g} {ds : List D} : semOf io n g ds = rfOf io (g (ds.map some ++ List.replicate (n - ds.length) none)) := by
  unfold semOf rfOf; rfl
@[simp] theorem rfOf_nx {io} : rfOf io (.nx ρ) = .rt .non (outsOf io ρ) := (rfl)
@[simp] theorem rfOf_rt {io} : rfOf io (.rt d ρ) = .rt d (outsOf io ρ) := (rfl)
@[simp] theorem rfOf_exc {io} : rfOf io (.exc x ρ) = .exc x (outsOf io ρ) := (rfl)
@[simp] theorem outsOf_nil {ρ} : outsOf [] ρ = [] := (rfl)
@[simp] theorem outsOf_t {bs o os} : outsOf (true :: bs) (o :: os) = o :: outsOf bs os := (rfl)
@[simp] theorem outsOf_f {bs o os} : outsOf (false :: bs) (o :: os) = none :: outsOf bs os := (rfl)
@[simp] theorem bind_ok {a : α} {f : α → Ev → R β} : (R.ok a ρ).bind f = f a ρ := (rfl)
@[simp] theorem bind_exc {f : α → Ev → R β} : (R.exc x ρ : R α).bind f = .exc x ρ := (rfl)
@[simp] theorem bind_stk {f : α → Ev → R β} : (R.stk : R α).bind f = .stk := (rfl)
@[simp] theorem of_some {a : α} : R.of (some a) ρ = .ok a ρ := (rfl)
@[simp] theorem rsof_ok {a : α} {k : α → Ev → RS} : RS.of (.ok a ρ) k = k a ρ := (rfl)
@[simp] theorem rsof_exc {k : α → Ev → RS} : RS.of (.exc x ρ) k = .exc x ρ := (rfl)
@[simp] theorem seq_nx {k : Ev → RS} : RS.seq (.nx ρ) k = k ρ := (rfl)
@[simp] theorem seq_rt {k : Ev → RS} : RS.seq (.rt d ρ) k = .rt d ρ := (rfl)
@[simp] theorem seq_exc {k : Ev → RS} : RS.seq (.exc x ρ) k = .exc x ρ := (rfl)
@[simp] theorem seq_bk {k : Ev → RS} : RS.seq (.bk ρ) k = .bk ρ := (rfl)
@[simp] theorem seq_ct {k : Ev → RS} : RS.seq (.ct ρ) k = .ct ρ := (rfl)
@[simp] theorem varR_s {i : Nat} : varR (some (some d)) i ρ = .ok (frz d) (ρ.set i (some (frz d))) := (rfl)
@[simp] theorem varV_s : varV (some (some d)) = some d := (rfl)
@[simp] theorem immR_s : immR (some d) ρ = if isImm d = true then .ok d ρ else .stk := (rfl)
@[simp] theorem tgR_s {k : Ev → RS} : tgR (some ρ) k = k ρ := (rfl)
@[simp] theorem blV_s {b : Bool} : blV (some (.bl b)) ρ = .ok b ρ := (rfl)
@[simp] theorem takeR_s {i : Nat} : takeR (some (some d)) i ρ = .ok d (if isImm d = true then ρ else ρ.set i none) := (rfl)
@[simp] theorem asB_s {b : Bool} : asB (.bl b) ρ = .ok b ρ := (rfl)
@[simp] theorem callR_rt {o : Ev} {u : Ev → Ev} : callR (.rt d o) ρ u = .ok d (u o) := (rfl)
@[simp] theorem callR_exc {o : Ev} {u : Ev → Ev} : callR (.exc x o) ρ u = .exc x (u o) := (rfl)
@[simp] theorem hd0_c {o : Option D} {os : Ev} : hd0 (o :: os) = o := (rfl)
@[simp] theorem ap_next : fNext ρ = .nx ρ := (rfl)
@[simp] theorem ap_seq {g k : Ev → RS} : fSeq g k ρ = RS.seq (g ρ) k := (rfl)
@[simp] theorem ap_ret {f : Ev → R D} : fRet f ρ = RS.of (f ρ) .rt := (rfl)
@[simp] theorem ap_drop {f : Ev → R D} : fDrop f ρ = RS.of (f ρ) fun _ ρ' => .nx ρ' := (rfl)
@[simp] theorem ap_if {c : Ev → R Bool} {g k : Ev → RS} : fIf c g k ρ = RS.of (c ρ) fun b ρ' => if b = true then g ρ' else k ρ' := (rfl)
@[simp] theorem ap_asg {f : Ev → R D} {t} : fAsg f t ρ = RS.of (f ρ) fun d ρ' => tgR (t d ρ') .nx := by
  unfold fAsg tgR; rfl
@[simp] theorem ap_gN {i : Nat} : gN i d ρ = some (ρ.set i (some d)) := (rfl)
@[simp] theorem ap_gsN : gsN [] ρ = some ρ := (rfl)
@[simp] theorem ap_gsC {t u} {ds : List D} : gsC t u (d :: ds) ρ = (t d ρ).bind (u ds) := by
  unfold gsC; dsimp only; cases t d ρ <;> rfl
@[simp] theorem ap_gT {n u} {ds : List D} : gT n u (.tup ds) ρ = if ds.length = n then u ds ρ else none := (rfl)
@[simp] theorem ap_for {f t g} : fFor f t g ρ = RS.of (f ρ) (loopS (stepS t g)) := (rfl)
theorem ap_step {t g} : stepS t g d ρ = tgR (t d ρ) g := by
  unfold stepS tgR; rfl
@[simp] theorem ap_it {g : D → Option (List D)} {f : Ev → R D} : fIt g f ρ = (f ρ).bind fun d ρ' => R.of (g d) ρ' := (rfl)
@[simp] theorem ap_itN {g : List D → Option (List D)} {f : Ev → R (List D)} : fItN g f ρ = (f ρ).bind fun d ρ' => R.of (g d) ρ' := (rfl)
@[simp] theorem ap_var {i : Nat} : fVar i ρ = varR ρ[i]? i ρ := by unfold fVar varR; rfl
@[simp] theorem ap_vvar {i : Nat} : vVar i ρ = varV ρ[i]? := by unfold vVar varV; rfl
@[simp] theorem ap_I {f : Ev → Option D} : fI f ρ = immR (f ρ) ρ := by unfold fI immR; rfl
@[simp] theorem ap_nil : fNil ρ = .ok [] ρ := (rfl)
@[simp] theorem ap_cons {f g} : fCons f g ρ = (f ρ).bind fun d ρ1 => (g ρ1).bind fun ds ρ2 => .ok (d :: ds) ρ2 := (rfl)
@[simp] theorem ap_vnil : vNil ρ = some [] := (rfl)
@[simp] theorem ap_vcons {f g} : vCons f g ρ = (f ρ).bind fun d => (g ρ).bind fun ds => some (d :: ds) := (rfl)
@[simp] theorem ap_op1 {g f} : fOp1 g f ρ = (f ρ).bind fun d ρ' => R.of (g d) ρ' := (rfl)
@[simp] theorem ap_op2 {g f h} : fOp2 g f h ρ = (f ρ).bind fun d ρ1 => (h ρ1).bind fun e ρ2 => R.of (g d e) ρ2 := (rfl)
@[simp] theorem ap_op2V {g f h} : fOp2V g f h ρ = (f ρ).bind fun d ρ1 => R.of ((h ρ1).bind (g d)) ρ1 := (rfl)
@[simp] theorem ap_opN {g f} : fOpN g f ρ = (f ρ).bind fun ds ρ' => R.of (g ds) ρ' := (rfl)
@[simp] theorem ap_v1 {g f} : vOp1 g f ρ = (f ρ).bind g := (rfl)
@[simp] theorem ap_v2 {g f h} : vOp2 g f h ρ = (f ρ).bind fun d => (h ρ).bind (g d) := (rfl)
@[simp] theorem ap_vN {g f} : vOpN g f ρ = (f ρ).bind g := (rfl)
@[simp] theorem ap_k : fK d ρ = .ok d ρ := (rfl)
@[simp] theorem ap_vk : vK d ρ = some d := (rfl)
@[simp] theorem ap_o0 : fO0 ρ = .ok none ρ := (rfl)
@[simp] theorem ap_yes : fYes ρ = .ok true ρ := (rfl)
@[simp] theorem ap_vlst {f} : vLst f ρ = (f ρ).bind fun ds => if ds.length ≤ sizeLine then some (.lst true ds) else none := (rfl)
@[simp] theorem ap_vtup {f} : vTup f ρ = (f ρ).bind fun ds => if ds.length ≤ sizeLine then some (.tup ds) else none := (rfl)
@[simp] theorem ap_lst {f} : fLst f ρ = (f ρ).bind fun ds ρ1 => if ds.length ≤ sizeLine then .ok (.lst true ds) ρ1 else .stk := (rfl)
@[simp] theorem ap_tup {f} : fTup f ρ = (f ρ).bind fun ds ρ1 => if ds.length ≤ sizeLine then .ok (.tup ds) ρ1 else .stk := (rfl)
@[simp] theorem ap_takeS {i : Nat} : takeS i ρ = takeR ρ[i]? i ρ := by unfold takeS takeR; rfl
@[simp] theorem ap_mv {i : Nat} : fMv i ρ = takeR ρ[i]? i ρ := ap_takeS
def isS {β : Type} (o : Option (Option D)) (k : D → R β) : R β := match o with
  | some (some d) => k d
  | _ => .stk
@[simp] theorem isS_s {k : D → R β} : isS (some (some d)) k = k d := (rfl)
@[simp] theorem ap_consL {i : Nat} {g} : fConsL i g ρ = isS ρ[i]? fun _ => (g ρ).bind fun ds ρ2 => (takeS i ρ2).bind fun d ρ3 => .ok (d :: ds) ρ3 := by
  unfold fConsL isS; rfl
@[simp] theorem ap_op2L {i : Nat} {g k} : fOp2L g i k ρ = isS ρ[i]? fun _ => (k ρ).bind fun e ρ1 => isS ρ1[i]? fun d => R.of (g d e) ρ1 := by
  unfold fOp2L isS; rfl
@[simp] theorem ap_ixE {i : Nat} {k} : fIxE i k ρ = isS ρ[i]? fun _ => (k ρ).bind fun e ρ1 => isS ρ1[i]? fun d => R.of (gIxI d e) ρ1 := by
  unfold fIxE isS; rfl
@[simp] theorem ap_tb {f} : fTb f ρ = (f ρ).bind asB := (rfl)
@[simp] theorem ap_tv {f} : fTv f ρ = blV (f ρ) ρ := by unfold fTv blV; rfl
@[simp] theorem ap_and {f g : Ev → R Bool} : fAnd f g ρ = (f ρ).bind fun b ρ1 => if b = true then g ρ1 else .ok false ρ1 := (rfl)
@[simp] theorem ap_or {f g : Ev → R Bool} : fOr f g ρ = (f ρ).bind fun b ρ1 => if b = true then .ok true ρ1 else g ρ1 := (rfl)
@[simp] theorem ap_not {f : Ev → R Bool} : fNot f ρ = (f ρ).bind fun b ρ1 => .ok (!b) ρ1 := (rfl)
@[simp] theorem ap_andD {f g : Ev → R D} : fAndD f g ρ = (f ρ).bind fun d ρ1 => (asB d ρ1).bind fun b ρ1 => if b = true then g ρ1 else .ok (.bl false) ρ1 := by
  unfold fAndD asB; cases f ρ with
  | ok d ρ1 => cases d <;> rfl
  | exc => rfl
  | stk => rfl
@[simp] theorem ap_orD {f g : Ev → R D} : fOrD f g ρ = (f ρ).bind fun d ρ1 => (asB d ρ1).bind fun b ρ1 => if b = true then .ok (.bl true) ρ1 else g ρ1 := by
  unfold fOrD asB; cases f ρ with
  | ok d ρ1 => cases d <;> rfl
  | exc => rfl
  | stk => rfl
@[simp] theorem ap_notD {f : Ev → R D} : fNotD f ρ = (f ρ).bind fun d ρ1 => (asB d ρ1).bind fun b ρ1 => .ok (.bl (!b)) ρ1 := by
  unfold fNotD asB; cases f ρ with
  | ok d ρ1 => cases d <;> rfl
  | exc => rfl
  | stk => rfl
@[simp] theorem ap_ifE {c f g} : fIfE c f g ρ = (c ρ).bind fun b ρ1 => if b = true then f ρ1 else g ρ1 := (rfl)
def chR (o : Option D) (k : Bool → R D) : R D := match o with
  | some (.bl b) => k b
  | _ => .stk
@[simp] theorem chR_s {b : Bool} {k} : chR (some (.bl b)) k = k b := (rfl)
@[simp] theorem ap_chain {g g' : D → D → Option D} {fa fb fc : Ev → R D} : fChain g g' fa fb fc ρ = (fa ρ).bind fun a ρ1 => (fb ρ1).bind fun b ρ2 => chR (g a b) fun k => if k = true then (fc ρ2).bind fun c ρ3 => R.of (g' b c) ρ3 else .ok (.bl false) ρ2 := by
  unfold fChain chR; rfl
@[simp] theorem ap_call {n sem fa} : fCall n sem fa ρ = (fa ρ).bind fun ds ρ1 => if ds.length = n then callR (sem (frzs ds)) ρ1 fun _ => ρ1 else .stk := (rfl)
@[simp] theorem ap_callIO {j n sem fa} : fCallIO j n sem fa ρ = isS ρ[j]? fun _ => (fa ρ).bind fun ds ρ1 => isS ρ1[j]? fun d0 => if ds.length + 1 = n then callR (sem (d0 :: frzs ds)) ρ1 fun outs => ρ1.set j (hd0 outs) else .stk := by
  unfold fCallIO isS; rfl
@[simp] theorem ap_meth {ty g fo fa} : fMeth ty g fo fa ρ = (fo ρ).bind fun d ρ1 => if ty d = true then (fa ρ1).bind fun ds ρ2 => R.of (g d ds) ρ2 else .stk := (rfl)
@[simp] theorem ap_sl {f l u} : fSl f l u ρ = (f ρ).bind fun d ρ1 => (l ρ1).bind fun lo ρ2 => (u ρ2).bind fun hi ρ3 => R.of (gSl d lo hi) ρ3 := (rfl)
def intO (d : D) (ρ : Ev) : R (Option Int) := match d with
  | .int i => .ok (some i) ρ
  | _ => .stk
@[simp] theorem intO_s {i : Int} : intO (.int i) ρ = .ok (some i) ρ := (rfl)
@[simp] theorem ap_O {f} : fO f ρ = (f ρ).bind intO := by unfold fO intO; rfl
def appS (o : Option (Option D)) (i : Nat) (d : D) (ρ : Ev) : RS := match o with
  | some (some (.lst true xs)) => if xs.length < sizeLine then .nx (ρ.set i (some (.lst true (xs ++ [d])))) else .stk
  | _ => .stk
@[simp] theorem appS_s {i : Nat} {xs : List D} : appS (some (some (.lst true xs))) i d ρ = if xs.length < sizeLine then .nx (ρ.set i (some (.lst true (xs ++ [d])))) else .stk := (rfl)
def isLs (o : Option (Option D)) (k : RS) : RS := match o with
  | some (some (.lst _ _)) => k
  | _ => .stk
@[simp] theorem isLs_s {b : Bool} {xs : List D} {k : RS} : isLs (some (some (.lst b xs))) k = k := (rfl)
def one1 (ds : List D) (k : D → RS) : RS := match ds with
  | [d] => k d
  | _ => .stk
@[simp] theorem one1_s {k : D → RS} : one1 [d] k = k d := (rfl)
@[simp] theorem ap_append {i : Nat} {f} : fAppend i f ρ = isLs ρ[i]? (RS.of (f ρ) fun ds ρ1 => one1 ds fun d => appS ρ1[i]? i d ρ1) := by
  unfold fAppend isLs one1 appS; rfl
def setS (o : Option (Option D)) (i : Nat) (d e : D) (ρ : Ev) : RS := match e with
  | .int n => (match o with
    | some (some (.lst true xs)) => (match ixN xs.length n with
      | some j => .nx (ρ.set i (some (.lst true (xs.set j d))))
      | none => .stk)
    | _ => .stk)
  | _ => .stk
def isSS (o : Option (Option D)) (k : RS) : RS := match o with
  | some (some _) => k
  | _ => .stk
@[simp] theorem isSS_s {k : RS} : isSS (some (some d)) k = k := (rfl)
@[simp] theorem ap_setL {i : Nat} {f k} : fSetL i f k ρ = RS.of (f ρ) fun d ρ1 => isSS ρ1[i]? (RS.of (k ρ1) fun e ρ2 => setS ρ2[i]? i d e ρ2) := by
  unfold fSetL isSS setS; rfl
theorem setS_n {i j : Nat} {xs : List D} (h : j < xs.length) : setS (some (some (.lst true xs))) i d (.int j) ρ = .nx (ρ.set i (some (.lst true (xs.set j d)))) := by
  unfold setS
  have : ixN xs.length (j : Int) = some j := by unfold ixN; rw [if_pos (by omega), if_pos (by omega)]; simp
  simp only [this]
def augS (o : Option D) (i : Nat) (ρ : Ev) : RS := match o with
  | some x => .nx (ρ.set i (some x))
  | none => .stk
@[simp] theorem augS_s {i : Nat} : augS (some d) i ρ = .nx (ρ.set i (some d)) := (rfl)
def isIm (o : Option (Option D)) (k : D → RS) : RS := match o with
  | some (some d0) => if isImm d0 = true then k d0 else .stk
  | _ => .stk
@[simp] theorem isIm_s {k : D → RS} : isIm (some (some d)) k = if isImm d = true then k d else .stk := (rfl)
@[simp] theorem ap_aug {i : Nat} {g f} : fAug i g f ρ = isIm ρ[i]? fun d0 => RS.of (f ρ) fun d ρ1 => augS (g d0 d) i ρ1 := by
  unfold fAug isIm augS; rfl
end
section
variable {d : D} {ds xs : List D} {o : Bool}
@[simp] theorem frz_int {i} : frz (.int i) = .int i := (rfl)
@[simp] theorem frz_bl {i} : frz (.bl i) = .bl i := (rfl)
@[simp] theorem frz_str {i} : frz (.str i) = .str i := (rfl)
@[simp] theorem frz_non : frz .non = .non := (rfl)
@[simp] theorem frz_gv {v} : frz (.gv v) = .gv v := (rfl)
@[simp] theorem frz_lst : frz (.lst o xs) = .lst false (frzs xs) := (rfl)
@[simp] theorem frz_tup : frz (.tup xs) = .tup (frzs xs) := (rfl)
@[simp] theorem frz_rol : frz (.rol xs) = .rol (frzs xs) := (rfl)
@[simp] theorem frzs_nil : frzs [] = [] := (rfl)
@[simp] theorem frzs_cons : frzs (d :: ds) = frz d :: frzs ds := (rfl)
theorem frzs_map : ∀ ds : List D, frzs ds = ds.map frz
  | [] => rfl
  | d :: ds => by rw [frzs, frzs_map ds]; rfl
@[simp] theorem imm_int {i} : isImm (.int i) = true := (rfl)
@[simp] theorem imm_bl {i} : isImm (.bl i) = true := (rfl)
@[simp] theorem imm_str {i} : isImm (.str i) = true := (rfl)
@[simp] theorem imm_non : isImm .non = true := (rfl)
@[simp] theorem imm_lstO : isImm (.lst true xs) = false := (rfl)
@[simp] theorem imm_lstI : isImm (.lst false xs) = isImms xs := by show (!false && isImms xs) = _; simp
@[simp] theorem imm_tup : isImm (.tup xs) = isImms xs := (rfl)
@[simp] theorem imm_rol : isImm (.rol xs) = isImms xs := (rfl)
@[simp] theorem imms_nil : isImms [] = true := (rfl)
@[simp] theorem imms_cons : isImms (d :: ds) = (isImm d && isImms ds) := (rfl)
theorem imms_all : isImms ds = true ↔ ∀ d ∈ ds, isImm d = true := by
  induction ds with
  | nil => simp
  | cons d ds ih => simp [ih]
theorem imms_map {α : Type} {f : α → D} {xs : List α} (h : ∀ x ∈ xs, isImm (f x) = true) : isImms (xs.map f) = true := by
  rw [imms_all]; intro d hd; obtain ⟨x, hx, rfl⟩ := List.mem_map.mp hd; exact h x hx
theorem frzs_mapf {α : Type} {f g : α → D} {xs : List α} (h : ∀ x ∈ xs, frz (f x) = g x) : frzs (xs.map f) = xs.map g := by
  rw [frzs_map, List.map_map]; exact List.map_congr_left h
@[simp] theorem add_ii {i j} : gAdd (.int i) (.int j) = some (.int (i + j)) := (rfl)
theorem add_ss {x y} : gAdd (.str x) (.str y) = if x.length + y.length ≤ sizeLine then some (.str (x ++ y)) else none := rfl
theorem add_ll {a b xs ys} : gAdd (.lst a xs) (.lst b ys) = if (isImms xs = true ∧ isImms ys = true) ∧ xs.length + ys.length ≤ sizeLine then some (.lst true (xs ++ ys)) else none := rfl
@[simp] theorem sub_ii {i j} : gSub (.int i) (.int j) = some (.int (i - j)) := (rfl)
@[simp] theorem mul_ii {i j} : gMul (.int i) (.int j) = if CMul i j then some (.int (i * j)) else none := (rfl)
@[simp] theorem fdiv_ii {i j} : gFdiv (.int i) (.int j) = if CDivX i j then some (.int (Int.fdiv i j)) else none := (rfl)
@[simp] theorem mod_ii {i j} : gMod (.int i) (.int j) = if j ≠ 0 then some (.int (Int.fmod i j)) else none := (rfl)
@[simp] theorem pow_ii {i j} : gPow (.int i) (.int j) = if CPow i j then some (.int (i ^ j.toNat)) else none := (rfl)
@[simp] theorem shl_ii {i j} : gShl (.int i) (.int j) = if CPow i j then some (.int (i * 2 ^ j.toNat)) else none := (rfl)
@[simp] theorem shr_ii {i j : Int} : gShr (.int i) (.int j) = if 0 ≤ j then some (.int (i / 2 ^ j.toNat)) else none := (rfl)
@[simp] theorem band_ii {i j} : gBand (.int i) (.int j) = some (.int (Builtin.bitAnd i j)) := (rfl)
@[simp] theorem bor_ii {i j} : gBor (.int i) (.int j) = some (.int (Builtin.bitOr i j)) := (rfl)
@[simp] theorem neg_i {i} : gNeg (.int i) = some (.int (-i)) := (rfl)
@[simp] theorem lt_ii {i j : Int} : gLt (.int i) (.int j) = some (.bl (decide (i < j))) := (rfl)
@[simp] theorem le_ii {i j : Int} : gLe (.int i) (.int j) = some (.bl (decide (i ≤ j))) := (rfl)
@[simp] theorem gt_ii {i j : Int} : gGt (.int i) (.int j) = some (.bl (decide (j < i))) := (rfl)
@[simp] theorem ge_ii {i j : Int} : gGe (.int i) (.int j) = some (.bl (decide (j ≤ i))) := (rfl)
@[simp] theorem lt_ss {x y : Str} : gLt (.str x) (.str y) = some (.bl (decide (x.cps.toList < y.cps.toList))) := (rfl)
@[simp] theorem eq_ii {i j : Int} : gEq (.int i) (.int j) = some (.bl (decide (i = j))) := (rfl)
@[simp] theorem eq_bb {i j : Bool} : gEq (.bl i) (.bl j) = some (.bl (decide (i = j))) := (rfl)
@[simp] theorem eq_ss {i j : Str} : gEq (.str i) (.str j) = some (.bl (decide (i = j))) := (rfl)
@[simp] theorem ne_ii {i j : Int} : gNe (.int i) (.int j) = some (.bl (!decide (i = j))) := (rfl)
@[simp] theorem ne_bb {i j : Bool} : gNe (.bl i) (.bl j) = some (.bl (!decide (i = j))) := (rfl)
@[simp] theorem ne_ss {i j : Str} : gNe (.str i) (.str j) = some (.bl (!decide (i = j))) := (rfl)
@[simp] theorem len_l : gLen [.lst o xs] = some (.int xs.length) := (rfl)
@[simp] theorem len_r : gLen [.rol xs] = some (.int xs.length) := (rfl)
@[simp] theorem len_t : gLen [.tup xs] = some (.int xs.length) := (rfl)
@[simp] theorem len_s {x : Str} : gLen [.str x] = if x.length ≤ sizeLine then some (.int x.length) else none := (rfl)
@[simp] theorem abs_i {i : Int} : gAbs [.int i] = some (.int (if i < 0 then -i else i)) := (rfl)
@[simp] theorem items_l : itemsL (.lst o xs) = some (frzs xs) := (rfl)
@[simp] theorem items_r : itemsL (.rol xs) = some xs := (rfl)
@[simp] theorem items_t : itemsT (.tup xs) = some (frzs xs) := (rfl)
@[simp] theorem lstOf_l : lstOf (.lst o xs) = some xs := (rfl)
@[simp] theorem any_l : gAny [.lst o xs] = (boolsD xs).map fun bs => .bl (bs.any id) := (rfl)
@[simp] theorem all_l : gAll [.lst o xs] = (boolsD xs).map fun bs => .bl (bs.all id) := (rfl)
theorem at_nat {α : Type} {xs : List α} {i : Nat} : atI xs (i : Int) = xs[i]? := by
  unfold atI ixN
  by_cases h : i < xs.length
  · rw [if_pos (by omega), if_pos (by omega)]; simp
  · rw [if_pos (by omega), if_neg (by omega), List.getElem?_eq_none (by omega)]; rfl
@[simp] theorem at_0 {α : Type} {xs : List α} : atI xs 0 = xs[0]? := at_nat (i := 0)
@[simp] theorem at_1 {α : Type} {xs : List α} : atI xs 1 = xs[1]? := at_nat (i := 1)
@[simp] theorem at_2 {α : Type} {xs : List α} : atI xs 2 = xs[2]? := at_nat (i := 2)
@[simp] theorem at_3 {α : Type} {xs : List α} : atI xs 3 = xs[3]? := at_nat (i := 3)
@[simp] theorem ix_l {i : Int} : gIx (.lst o xs) (.int i) = atI xs i := (rfl)
@[simp] theorem ix_r {i : Int} : gIx (.rol xs) (.int i) = atI xs i := (rfl)
@[simp] theorem ix_t {i : Int} : gIx (.tup xs) (.int i) = atI xs i := (rfl)
theorem ixI_of {e x : D} (h : gIx d e = some x) (i : isImm x = true) : gIxI d e = some x := by
  unfold gIxI; simp only [h, if_pos i]
end
end Hap
namespace Hap
open PySem PySem.Spec PyProof.Rows L2
theorem bitNot_eq (x : Int) : Builtin.bitNot x = -x - 1 := by
  unfold Builtin.bitNot; omega
theorem band_nn (a b : Nat) : Builtin.bitAnd (a : Int) (b : Int) = ((a &&& b : Nat) : Int) := by
  unfold Builtin.bitAnd
  rw [decide_eq_true (Int.natCast_nonneg a), decide_eq_true (Int.natCast_nonneg b)]
  rfl
theorem bor_nn (a b : Nat) : Builtin.bitOr (a : Int) (b : Int) = ((a ||| b : Nat) : Int) := by
  unfold Builtin.bitOr Builtin.bitAnd
  rw [decide_eq_false (show ¬ 0 ≤ Builtin.bitNot (a : Int) by rw [bitNot_eq]; omega), decide_eq_false (show ¬ 0 ≤ Builtin.bitNot (b : Int) by rw [bitNot_eq]; omega)]
  have e : ∀ x : Int, Builtin.bitNot (Builtin.bitNot x) = x := fun x => by rw [bitNot_eq, bitNot_eq]; omega
  simp only [e]
  rfl
theorem test_1 (a b : Nat) : ((((a >>> b) &&& 1 : Nat) : Int) = 1) ↔ a.testBit b = true := by
  have : (a.testBit b = true) ↔ (1 &&& (a >>> b)) ≠ 0 := by unfold Nat.testBit; simp
  rw [this]
  have h2 : (a >>> b) &&& 1 = (a >>> b) % 2 := Nat.and_one_is_mod _
  have h3 : 1 &&& (a >>> b) = (a >>> b) % 2 := Nat.one_and_eq_mod_two _
  rw [h2, h3]
  omega
theorem cpow_small (i : Int) (j : Nat) (h : j ≤ 1000000) (hi : i.natAbs < 2 ^ 64) : CPow i j := ⟨by omega, by omega, hi⟩
theorem rangeD_eq : ∀ (lo : Int) (n : Nat), rangeD lo n = (List.range n).map fun i => .int (lo + (i : Nat))
  | lo, 0 => rfl
  | lo, n + 1 => by
    rw [rangeD, rangeD_eq (lo + 1) n, List.range_succ_eq_map, List.map_cons, List.map_map]
    congr 1
    · simp
    · apply List.map_congr_left; intro i _; show D.int _ = D.int _; congr 1; simp; omega
theorem rangeD_0 (n : Nat) : rangeD 0 n = (List.range n).map fun i => .int ((i : Nat) : Int) := by
  rw [rangeD_eq]; apply List.map_congr_left; intro i _; simp
theorem rng1_n {n : Nat} (h : n < 2 ^ 60) : rng1 [.int (n : Int)] = some ((List.range n).map fun i => .int ((i : Nat) : Int)) := by
  unfold rng1
  dsimp only
  rw [if_pos ⟨by omega, by omega⟩, Int.toNat_natCast, rangeD_0]
theorem loop_inv {step : D → Ev → RS} (I : Nat → Ev → Prop) : ∀ (ds : List D) (k : Nat) (ρ : Ev), I k ρ → (∀ j d ρ, ds[j]? = some d → I (k + j) ρ → ∃ ρ', step d ρ = .nx ρ' ∧ I (k + j + 1) ρ') → ∃ ρ', loopS step ds ρ = .nx ρ' ∧ I (k + ds.length) ρ'
  | [], k, ρ, h, _ => ⟨ρ, rfl, h⟩
  | d :: ds, k, ρ, h, hs => by
    obtain ⟨ρ1, e, h1⟩ := hs 0 d ρ rfl h
    obtain ⟨ρ', e', h'⟩ := loop_inv I ds (k + 1) ρ1 h1 fun j d ρ hj hI => by
      have := hs (j + 1) d ρ (by simpa using hj) (by rw [show k + (j + 1) = k + 1 + j by omega]; exact hI)
      rwa [show k + (j + 1) + 1 = k + 1 + j + 1 by omega] at this
    refine ⟨ρ', ?_, ?_⟩
    · show (match step d ρ with | .nx ρ' => loopS step ds ρ' | .ct ρ' => loopS step ds ρ' | .bk ρ' => .nx ρ' | .rt d ρ' => .rt d ρ' | .exc x ρ' => .exc x ρ' | .stk => .stk) = _
      rw [e]; exact e'
    · rw [List.length_cons, show k + (ds.length + 1) = k + 1 + ds.length by omega]; exact h'
/-- a loop by an invariant over how many turns were made -/
theorem loop0 {step : D → Ev → RS} {ds : List D} {ρ : Ev} (I : Nat → Ev → Prop) (h : I 0 ρ) (hs : ∀ j d ρ, ds[j]? = some d → I j ρ → ∃ ρ', step d ρ = .nx ρ' ∧ I (j + 1) ρ') : ∃ ρ', loopS step ds ρ = .nx ρ' ∧ I ds.length ρ' := by
  have := loop_inv I ds 0 ρ h (fun j d ρ hj hI => by rw [Nat.zero_add] at hI ⊢; exact hs j d ρ hj hI)
  rwa [Nat.zero_add] at this
/-- .. over a range -/
theorem loopR {step : D → Ev → RS} {n : Nat} {ρ : Ev} (I : Nat → Ev → Prop) (h : I 0 ρ) (hs : ∀ j ρ, j < n → I j ρ → ∃ ρ', step (.int (j : Int)) ρ = .nx ρ' ∧ I (j + 1) ρ') : ∃ ρ', loopS step ((List.range n).map fun i => .int ((i : Nat) : Int)) ρ = .nx ρ' ∧ I n ρ' := by
  have := loop0 (step := step) (ds := (List.range n).map fun i => .int ((i : Nat) : Int)) I h fun j d ρ hj hI => by
    rw [List.getElem?_map] at hj
    by_cases hn : j < n
    · rw [List.getElem?_range hn] at hj
      cases hj
      exact hs j ρ hn hI
    · rw [List.getElem?_eq_none (by simp; omega)] at hj; cases hj
  simpa using this
/-- .. over mapped items -/
theorem loopM {α : Type} {step : D → Ev → RS} {f : α → D} {xs : List α} {ρ : Ev} (I : Nat → Ev → Prop) (h : I 0 ρ) (hs : ∀ j x ρ, xs[j]? = some x → I j ρ → ∃ ρ', step (f x) ρ = .nx ρ' ∧ I (j + 1) ρ') : ∃ ρ', loopS step (xs.map f) ρ = .nx ρ' ∧ I xs.length ρ' := by
  have := loop0 (step := step) (ds := xs.map f) I h fun j d ρ hj hI => by
    rw [List.getElem?_map] at hj
    cases e : xs[j]? with
    | none => rw [e] at hj; cases hj
    | some x => rw [e] at hj; cases hj; exact hs j x ρ e hI
  simpa using this
/-- .. that may leave early by a return -/
def Goes (N : Ev → Prop) (T : D → Ev → Prop) (r : RS) : Prop := (∃ ρ, r = .nx ρ ∧ N ρ) ∨ ∃ d ρ, r = .rt d ρ ∧ T d ρ
theorem loopT {α : Type} {step : D → Ev → RS} {f : α → D} {T : D → Ev → Prop} (I : List α → Ev → Prop) (xs : List α) (ρ : Ev) (h : I xs ρ) (hs : ∀ x xs ρ, I (x :: xs) ρ → Goes (I xs) T (step (f x) ρ)) : Goes (I []) T (loopS step (xs.map f) ρ) := by
  induction xs generalizing ρ with
  | nil => exact .inl ⟨ρ, rfl, h⟩
  | cons x xs ih =>
    show Goes (I []) T (match step (f x) ρ with | .nx ρ' => loopS step (xs.map f) ρ' | .ct ρ' => loopS step (xs.map f) ρ' | .bk ρ' => .nx ρ' | .rt d ρ' => .rt d ρ' | .exc x ρ' => .exc x ρ' | .stk => .stk)
    rcases hs x xs ρ h with ⟨ρ1, e, h1⟩ | ⟨d, ρ1, e, h1⟩
    · rw [e]; exact ih ρ1 h1
    · rw [e]; exact .inr ⟨d, ρ1, rfl, h1⟩
theorem wipe_len : ∀ (vs : List Nat) (ρ : Ev), (wipeE ρ vs).length = ρ.length
  | [], ρ => rfl
  | v :: vs, ρ => by rw [wipeE, List.length_set, wipe_len vs]
theorem loopC_map {α : Type} {t : D → Ev → Option Ev} {c : Ev → R Bool} {f : Ev → R D} {vs : List Nat} {g : α → D} {p : α → Bool} {e : α → D} {W : Ev} : ∀ (xs : List α) (acc : List D),
    (∀ x ∈ xs, ∃ ρ1, t (g x) W = some ρ1 ∧ ∃ ρ2, c ρ1 = .ok (p x) ρ2 ∧ (p x = true → ∃ ρ3, f ρ2 = .ok (e x) ρ3 ∧ wipeE ρ3 vs = W) ∧ (p x = false → wipeE ρ2 vs = W)) →
    loopC t c f vs (xs.map g) acc W = .ok (acc ++ (xs.filter p).map e) W
  | [], acc, _ => by simp [loopC]
  | x :: xs, acc, h => by
    obtain ⟨ρ1, h1, ρ2, h2, ht, hf⟩ := h x List.mem_cons_self
    have ih := fun acc => loopC_map xs acc fun y hy => h y (List.mem_cons_of_mem _ hy)
    rw [List.map_cons, loopC, h1]
    dsimp only
    cases hp : p x with
    | true =>
      rw [hp] at h2
      obtain ⟨ρ3, h3, h4⟩ := ht hp
      rw [h2]; dsimp only; rw [h3]; dsimp only; rw [h4, ih]
      simp [hp]
    | false =>
      rw [hp] at h2
      rw [h2]; dsimp only; rw [hf hp, ih]
      simp [hp]
theorem back_wipe : ∀ (vs : List Nat) (ρ : Ev), backE ρ (wipeE ρ vs) vs = ρ := by
  have key : ∀ (vs : List Nat) (ρ ρ' : Ev), ρ'.length = ρ.length → (∀ i, i ∉ vs → ρ'[i]? = ρ[i]?) → backE ρ ρ' vs = ρ := by
    intro vs
    induction vs with
    | nil => intro ρ ρ' hl h; exact List.ext_getElem? fun i => h i (by simp)
    | cons v vs ih =>
      intro ρ ρ' hl h
      have hb : ∀ (us : List Nat) (σ : Ev), (backE ρ σ us).length = σ.length := by
        intro us; induction us with
        | nil => intro σ; rfl
        | cons u us ih => intro σ; rw [backE, List.length_set, ih]
      have hg : ∀ (us : List Nat) (σ : Ev) (i : Nat), σ.length = ρ.length → (backE ρ σ us)[i]? = if i ∈ us then ρ[i]? else σ[i]? := by
        intro us; induction us with
        | nil => intro σ i _; simp [backE]
        | cons u us ih =>
          intro σ i hσ
          rw [backE, List.getElem?_set]
          by_cases hu : u = i
          · subst hu
            simp only [List.mem_cons, true_or, if_true, ite_true]
            rw [hb, hσ]
            by_cases hlt : u < ρ.length
            · rw [if_pos hlt, List.getElem?_eq_getElem hlt]
            · rw [if_neg hlt]; exact (List.getElem?_eq_none (by omega)).symm
          · rw [if_neg hu, ih σ i hσ]
            simp only [List.mem_cons, Ne.symm hu, false_or]
      apply List.ext_getElem?
      intro i
      have e2 : (backE ρ ρ' (v :: vs))[i]? = _ := hg (v :: vs) ρ' i hl
      rw [e2]
      by_cases hm : i ∈ v :: vs
      · rw [if_pos hm]
      · rw [if_neg hm]; exact h i hm
  intro vs ρ
  refine key vs ρ _ (wipe_len vs ρ) ?_
  intro i hi
  have : ∀ (us : List Nat) (ρ : Ev), i ∉ us → (wipeE ρ us)[i]? = ρ[i]? := by
    intro us
    induction us with
    | nil => intro ρ _; rfl
    | cons u us ih =>
      intro ρ h
      rw [wipeE, List.getElem?_set_ne (by intro e; subst e; exact h List.mem_cons_self)]
      exact ih ρ fun z => h (List.mem_cons_of_mem _ z)
  exact this vs ρ hi
theorem lc_map {α : Type} {i : Ev → R (List D)} {t : D → Ev → Option Ev} {c : Ev → R Bool} {f : Ev → R D} {vs : List Nat} {g : α → D} {p : α → Bool} {e : α → D} {xs : List α} {ρ ρ1 : Ev}
    (hi : i ρ = .ok (xs.map g) ρ1) (him : immAt ρ1 vs = true) (hl : xs.length ≤ sizeLine)
    (h : ∀ x ∈ xs, ∃ ρ2, t (g x) (wipeE ρ1 vs) = some ρ2 ∧ ∃ ρ3, c ρ2 = .ok (p x) ρ3 ∧ (p x = true → ∃ ρ4, f ρ3 = .ok (e x) ρ4 ∧ wipeE ρ4 vs = wipeE ρ1 vs) ∧ (p x = false → wipeE ρ3 vs = wipeE ρ1 vs)) :
    fLc i t c f vs ρ = .ok (.lst true ((xs.filter p).map e)) ρ1 := by
  unfold fLc
  rw [hi]
  dsimp only [R.bind]
  rw [if_pos ⟨him, by simpa using hl⟩, loopC_map xs [] h]
  dsimp only
  rw [back_wipe]; rfl
/-- without a test -/
theorem lc_all {α : Type} {i : Ev → R (List D)} {t : D → Ev → Option Ev} {f : Ev → R D} {vs : List Nat} {g : α → D} {e : α → D} {xs : List α} {ρ ρ1 : Ev}
    (hi : i ρ = .ok (xs.map g) ρ1) (him : immAt ρ1 vs = true) (hl : xs.length ≤ sizeLine)
    (h : ∀ x ∈ xs, ∃ ρ2, t (g x) (wipeE ρ1 vs) = some ρ2 ∧ ∃ ρ4, f ρ2 = .ok (e x) ρ4 ∧ wipeE ρ4 vs = wipeE ρ1 vs) :
    fLc i t fYes f vs ρ = .ok (.lst true (xs.map e)) ρ1 := by
  have := lc_map (p := fun _ => true) (c := fYes) (f := f) (e := e) hi him hl fun x hx => by
    obtain ⟨ρ2, h1, ρ4, h2, h3⟩ := h x hx
    exact ⟨ρ2, h1, ρ2, rfl, fun _ => ⟨ρ4, h2, h3⟩, fun z => by cases z⟩
  rw [List.filter_eq_self.mpr (fun _ _ => rfl)] at this
  exact this
@[simp] theorem wipe_nil {ρ : Ev} : wipeE ρ [] = ρ := (rfl)
@[simp] theorem wipe_cons {ρ : Ev} {v vs} : wipeE ρ (v :: vs) = (wipeE ρ vs).set v none := (rfl)
@[simp] theorem immAt_nil {ρ : Ev} : immAt ρ [] = true := (rfl)
def immO (o : Option (Option D)) : Bool := match o with
  | some (some d) => isImm d
  | _ => true
@[simp] theorem immO_n : immO (some none) = true := (rfl)
@[simp] theorem immO_s {d : D} : immO (some (some d)) = isImm d := (rfl)
@[simp] theorem immAt_cons {ρ : Ev} {v vs} : immAt ρ (v :: vs) = (immO ρ[v]? && immAt ρ vs) := by
  unfold immAt immO; rw [List.all_cons]; try rfl
end Hap
namespace Hap
open PySem PySem.Spec PyProof.Rows L2
theorem kit_NoneType_bool : kitB "NoneType" "bool" = some false := by decide +kernel
theorem kit_NoneType_int : kitB "NoneType" "int" = some false := by decide +kernel
theorem kit_NoneType_list : kitB "NoneType" "list" = some false := by decide +kernel
theorem kit_NoneType_str : kitB "NoneType" "str" = some false := by decide +kernel
theorem kit_NoneType_tuple : kitB "NoneType" "tuple" = some false := by decide +kernel
theorem kit_bool_bool : kitB "bool" "bool" = some true := by decide +kernel
theorem kit_bool_int : kitB "bool" "int" = some true := by decide +kernel
theorem kit_bool_list : kitB "bool" "list" = some false := by decide +kernel
theorem kit_bool_str : kitB "bool" "str" = some false := by decide +kernel
theorem kit_bool_tuple : kitB "bool" "tuple" = some false := by decide +kernel
theorem kit_int_bool : kitB "int" "bool" = some false := by decide +kernel
theorem kit_int_int : kitB "int" "int" = some true := by decide +kernel
theorem kit_int_list : kitB "int" "list" = some false := by decide +kernel
theorem kit_int_str : kitB "int" "str" = some false := by decide +kernel
theorem kit_int_tuple : kitB "int" "tuple" = some false := by decide +kernel
theorem kit_list_bool : kitB "list" "bool" = some false := by decide +kernel
theorem kit_list_int : kitB "list" "int" = some false := by decide +kernel
theorem kit_list_list : kitB "list" "list" = some true := by decide +kernel
theorem kit_list_str : kitB "list" "str" = some false := by decide +kernel
theorem kit_list_tuple : kitB "list" "tuple" = some false := by decide +kernel
theorem kit_str_bool : kitB "str" "bool" = some false := by decide +kernel
theorem kit_str_int : kitB "str" "int" = some false := by decide +kernel
theorem kit_str_list : kitB "str" "list" = some false := by decide +kernel
theorem kit_str_str : kitB "str" "str" = some true := by decide +kernel
theorem kit_str_tuple : kitB "str" "tuple" = some false := by decide +kernel
theorem kit_tuple_bool : kitB "tuple" "bool" = some false := by decide +kernel
theorem kit_tuple_int : kitB "tuple" "int" = some false := by decide +kernel
theorem kit_tuple_list : kitB "tuple" "list" = some false := by decide +kernel
theorem kit_tuple_str : kitB "tuple" "str" = some false := by decide +kernel
theorem kit_tuple_tuple : kitB "tuple" "tuple" = some true := by decide +kernel
@[simp] theorem isi_non_int : gIsi [.non, .gv (.ty "int")] = some (.bl false) := by show (kitB "NoneType" "int").map D.bl = _; rw [kit_NoneType_int]; rfl
@[simp] theorem isi_bl_int {b : Bool} : gIsi [(.bl b), .gv (.ty "int")] = some (.bl true) := by show (kitB "bool" "int").map D.bl = _; rw [kit_bool_int]; rfl
@[simp] theorem isi_int_int {i : Int} : gIsi [(.int i), .gv (.ty "int")] = some (.bl true) := by show (kitB "int" "int").map D.bl = _; rw [kit_int_int]; rfl
@[simp] theorem isi_str_int {x : Str} : gIsi [(.str x), .gv (.ty "int")] = some (.bl false) := by show (kitB "str" "int").map D.bl = _; rw [kit_str_int]; rfl
@[simp] theorem isi_lst_int {o : Bool} {xs : List D} : gIsi [(.lst o xs), .gv (.ty "int")] = some (.bl false) := by show (kitB "list" "int").map D.bl = _; rw [kit_list_int]; rfl
@[simp] theorem isi_tup_int {xs : List D} : gIsi [(.tup xs), .gv (.ty "int")] = some (.bl false) := by show (kitB "tuple" "int").map D.bl = _; rw [kit_tuple_int]; rfl
@[simp] theorem isi_rol_int {xs : List D} : gIsi [(.rol xs), .gv (.ty "int")] = some (.bl false) := by show (kitB "list" "int").map D.bl = _; rw [kit_list_int]; rfl
@[simp] theorem isi_non_bool : gIsi [.non, .gv (.ty "bool")] = some (.bl false) := by show (kitB "NoneType" "bool").map D.bl = _; rw [kit_NoneType_bool]; rfl
@[simp] theorem isi_bl_bool {b : Bool} : gIsi [(.bl b), .gv (.ty "bool")] = some (.bl true) := by show (kitB "bool" "bool").map D.bl = _; rw [kit_bool_bool]; rfl
@[simp] theorem isi_int_bool {i : Int} : gIsi [(.int i), .gv (.ty "bool")] = some (.bl false) := by show (kitB "int" "bool").map D.bl = _; rw [kit_int_bool]; rfl
@[simp] theorem isi_str_bool {x : Str} : gIsi [(.str x), .gv (.ty "bool")] = some (.bl false) := by show (kitB "str" "bool").map D.bl = _; rw [kit_str_bool]; rfl
@[simp] theorem isi_lst_bool {o : Bool} {xs : List D} : gIsi [(.lst o xs), .gv (.ty "bool")] = some (.bl false) := by show (kitB "list" "bool").map D.bl = _; rw [kit_list_bool]; rfl
@[simp] theorem isi_tup_bool {xs : List D} : gIsi [(.tup xs), .gv (.ty "bool")] = some (.bl false) := by show (kitB "tuple" "bool").map D.bl = _; rw [kit_tuple_bool]; rfl
@[simp] theorem isi_rol_bool {xs : List D} : gIsi [(.rol xs), .gv (.ty "bool")] = some (.bl false) := by show (kitB "list" "bool").map D.bl = _; rw [kit_list_bool]; rfl
@[simp] theorem isi_non_str : gIsi [.non, .gv (.ty "str")] = some (.bl false) := by show (kitB "NoneType" "str").map D.bl = _; rw [kit_NoneType_str]; rfl
@[simp] theorem isi_bl_str {b : Bool} : gIsi [(.bl b), .gv (.ty "str")] = some (.bl false) := by show (kitB "bool" "str").map D.bl = _; rw [kit_bool_str]; rfl
@[simp] theorem isi_int_str {i : Int} : gIsi [(.int i), .gv (.ty "str")] = some (.bl false) := by show (kitB "int" "str").map D.bl = _; rw [kit_int_str]; rfl
@[simp] theorem isi_str_str {x : Str} : gIsi [(.str x), .gv (.ty "str")] = some (.bl true) := by show (kitB "str" "str").map D.bl = _; rw [kit_str_str]; rfl
@[simp] theorem isi_lst_str {o : Bool} {xs : List D} : gIsi [(.lst o xs), .gv (.ty "str")] = some (.bl false) := by show (kitB "list" "str").map D.bl = _; rw [kit_list_str]; rfl
@[simp] theorem isi_tup_str {xs : List D} : gIsi [(.tup xs), .gv (.ty "str")] = some (.bl false) := by show (kitB "tuple" "str").map D.bl = _; rw [kit_tuple_str]; rfl
@[simp] theorem isi_rol_str {xs : List D} : gIsi [(.rol xs), .gv (.ty "str")] = some (.bl false) := by show (kitB "list" "str").map D.bl = _; rw [kit_list_str]; rfl
@[simp] theorem isi_non_list : gIsi [.non, .gv (.ty "list")] = some (.bl false) := by show (kitB "NoneType" "list").map D.bl = _; rw [kit_NoneType_list]; rfl
@[simp] theorem isi_bl_list {b : Bool} : gIsi [(.bl b), .gv (.ty "list")] = some (.bl false) := by show (kitB "bool" "list").map D.bl = _; rw [kit_bool_list]; rfl
@[simp] theorem isi_int_list {i : Int} : gIsi [(.int i), .gv (.ty "list")] = some (.bl false) := by show (kitB "int" "list").map D.bl = _; rw [kit_int_list]; rfl
@[simp] theorem isi_str_list {x : Str} : gIsi [(.str x), .gv (.ty "list")] = some (.bl false) := by show (kitB "str" "list").map D.bl = _; rw [kit_str_list]; rfl
@[simp] theorem isi_lst_list {o : Bool} {xs : List D} : gIsi [(.lst o xs), .gv (.ty "list")] = some (.bl true) := by show (kitB "list" "list").map D.bl = _; rw [kit_list_list]; rfl
@[simp] theorem isi_tup_list {xs : List D} : gIsi [(.tup xs), .gv (.ty "list")] = some (.bl false) := by show (kitB "tuple" "list").map D.bl = _; rw [kit_tuple_list]; rfl
@[simp] theorem isi_rol_list {xs : List D} : gIsi [(.rol xs), .gv (.ty "list")] = some (.bl true) := by show (kitB "list" "list").map D.bl = _; rw [kit_list_list]; rfl
@[simp] theorem isi_non_tuple : gIsi [.non, .gv (.ty "tuple")] = some (.bl false) := by show (kitB "NoneType" "tuple").map D.bl = _; rw [kit_NoneType_tuple]; rfl
@[simp] theorem isi_bl_tuple {b : Bool} : gIsi [(.bl b), .gv (.ty "tuple")] = some (.bl false) := by show (kitB "bool" "tuple").map D.bl = _; rw [kit_bool_tuple]; rfl
@[simp] theorem isi_int_tuple {i : Int} : gIsi [(.int i), .gv (.ty "tuple")] = some (.bl false) := by show (kitB "int" "tuple").map D.bl = _; rw [kit_int_tuple]; rfl
@[simp] theorem isi_str_tuple {x : Str} : gIsi [(.str x), .gv (.ty "tuple")] = some (.bl false) := by show (kitB "str" "tuple").map D.bl = _; rw [kit_str_tuple]; rfl
@[simp] theorem isi_lst_tuple {o : Bool} {xs : List D} : gIsi [(.lst o xs), .gv (.ty "tuple")] = some (.bl false) := by show (kitB "list" "tuple").map D.bl = _; rw [kit_list_tuple]; rfl
@[simp] theorem isi_tup_tuple {xs : List D} : gIsi [(.tup xs), .gv (.ty "tuple")] = some (.bl true) := by show (kitB "tuple" "tuple").map D.bl = _; rw [kit_tuple_tuple]; rfl
@[simp] theorem isi_rol_tuple {xs : List D} : gIsi [(.rol xs), .gv (.ty "tuple")] = some (.bl false) := by show (kitB "list" "tuple").map D.bl = _; rw [kit_list_tuple]; rfl
theorem loopL {α : Type} {step : D → Ev → RS} {f : α → D} (I : List α → Ev → Prop) (xs : List α) (ρ : Ev) (h : I xs ρ) (hs : ∀ x xs ρ, I (x :: xs) ρ → ∃ ρ', step (f x) ρ = .nx ρ' ∧ I xs ρ') : ∃ ρ', loopS step (xs.map f) ρ = .nx ρ' ∧ I [] ρ' := by
  rcases loopT (T := fun _ _ => False) I xs ρ h (fun x xs ρ hI => .inl (hs x xs ρ hI)) with h | ⟨_, _, _, h⟩
  · exact h
  · exact h.elim
end Hap
namespace Hap
open PySem PySem.Spec PyProof.Rows L2
def Sh (n : Nat) (d : D) : Prop := (toPy d).canLay0 = true ∧ (toPy d).depth ≤ n
def EqD {α : Type} [DecidableEq α] (f : α → D) : Prop := ∀ x y, PyData.eqv (toPy (f x)) (toPy (f y)) = decide (x = y)
section
variable {α : Type} [DecidableEq α] {f : α → D} {n : Nat} {o o' : Bool}
theorem Sh.shaped {d : D} (h : Sh n d) (hn : n ≤ 64) : SeqAt.shaped (toPy d) = true := by
  unfold SeqAt.shaped; rw [h.1, decide_eq_true (Nat.le_trans h.2 hn)]; rfl
theorem Sh.mono {m : Nat} {d : D} (h : Sh n d) (l : n ≤ m) : Sh m d := ⟨h.1, Nat.le_trans h.2 l⟩
theorem sh_int {i} : Sh n (.int i) := ⟨by simp [toPy, PyData.canLay0], by simp [toPy, PyData.depth]⟩
theorem sh_bl {i} : Sh n (.bl i) := ⟨by simp [toPy, PyData.canLay0], by simp [toPy, PyData.depth]⟩
theorem sh_str {x : Str} (h : ∀ c ∈ x.cps.toList, c < 0x110000) : Sh n (.str x) := ⟨by
  simp only [toPy, PyData.canLay0, PyData.strOk, Array.all_eq_true']
  intro c hc; exact decide_eq_true (h c (by simpa using hc)), by simp [toPy, PyData.depth]⟩
theorem shs {ds : List D} (h : ∀ d ∈ ds, Sh n d) : PyData.canLayAll0 (toPys ds) = true ∧ PyData.depthAll (toPys ds) ≤ n := by
  induction ds with
  | nil => simp [toPys, PyData.canLayAll0, PyData.depthAll]
  | cons d ds ih =>
    obtain ⟨h1, h2⟩ := ih fun d hd => h d (List.mem_cons_of_mem _ hd)
    obtain ⟨h3, h4⟩ := h d List.mem_cons_self
    simp only [toPys, PyData.canLayAll0, PyData.depthAll, h3, h1, Bool.and_self, true_and]
    omega
theorem sh_lst {ds : List D} (h : ∀ d ∈ ds, Sh n d) : Sh (n + 1) (.lst o ds) := by
  obtain ⟨h1, h2⟩ := shs h
  exact ⟨by simp only [toPy, PyData.canLay0, h1], by simp only [toPy, PyData.depth]; omega⟩
theorem sh_tup {ds : List D} (h : ∀ d ∈ ds, Sh n d) : Sh (n + 1) (.tup ds) := by
  obtain ⟨h1, h2⟩ := shs h
  exact ⟨by simp only [toPy, PyData.canLay0, h1], by simp only [toPy, PyData.depth]; omega⟩
theorem toPys_map (xs : List D) : toPys xs = xs.map toPy := by
  induction xs with
  | nil => rfl
  | cons x xs ih => rw [toPys, ih]; rfl
theorem eqd_all (E : EqD f) : ∀ xs ys : List α, PyData.eqvAll (toPys (xs.map f)) (toPys (ys.map f)) = decide (xs = ys)
  | [], [] => by simp [toPys, PyData.eqvAll]
  | [], _ :: _ => by simp [toPys, PyData.eqvAll]
  | _ :: _, [] => by simp [toPys, PyData.eqvAll]
  | x :: xs, y :: ys => by
    simp only [List.map_cons, toPys, PyData.eqvAll, eqd_all E xs ys, E x y]
    by_cases h : x = y <;> by_cases h' : xs = ys <;> simp [h, h']
theorem eqd_nat : EqD fun x : Nat => D.int (x : Int) := fun x y => by
  simp only [toPy, PyData.eqv]
  by_cases h : x = y
  · simp [h]
  · have : ¬ (x : Int) = (y : Int) := by omega
    simp [h, this]
/-- two things of one code -/
theorem eq_cod {x y : α} (E : EqD f) (hx : Sh 64 (f x)) (hy : Sh 64 (f y)) (hm : gEq (f x) (f y) = if SeqAt.shaped (toPy (f x)) = true ∧ SeqAt.shaped (toPy (f y)) = true then some (.bl (PyData.eqv (toPy (f x)) (toPy (f y)))) else none) : gEq (f x) (f y) = some (.bl (decide (x = y))) := by
  rw [hm, if_pos ⟨hx.shaped (by omega), hy.shaped (by omega)⟩, E x y]
theorem any_map {xs : List α} {z : α} (E : EqD f) : ((toPys (xs.map f)).any fun u => PyData.eqv u (toPy (f z))) = decide (z ∈ xs) := by
  induction xs with
  | nil => simp [toPys]
  | cons x xs ih =>
    rw [List.map_cons, toPys, List.any_cons, ih, E x z]
    by_cases h : x = z
    · simp [h]
    · have : ¬ z = x := fun e => h e.symm
      simp [h, this]
theorem in_map {xs : List α} {z : α} (E : EqD f) (hz : Sh 60 (f z)) (hx : ∀ x ∈ xs, Sh 60 (f x)) : gIn (f z) (.lst o (xs.map f)) = some (.bl (decide (z ∈ xs))) := by
  have h1 : Sh 61 (.lst o (xs.map f)) := sh_lst fun d hd => by obtain ⟨x, hx', rfl⟩ := List.mem_map.mp hd; exact hx x hx'
  have h1' := h1.shaped (by omega)
  simp only [toPy] at h1'
  unfold gIn gInB
  dsimp only
  rw [if_pos ⟨hz.shaped (by omega), h1'⟩, any_map E]; rfl
theorem idx_map {xs : List α} {z : α} {i : Nat} (E : EqD f) (hx : ∀ x ∈ xs, Sh 60 (f x)) (hi : xs[i]? = some z) (nd : xs.Nodup) : gIndex (.lst o (xs.map f)) [f z] = some (.int (i : Int)) := by
  have hz : z ∈ xs := List.mem_of_getElem? hi
  have h1 : Sh 61 (.lst o (xs.map f)) := sh_lst fun d hd => by obtain ⟨x, hx', rfl⟩ := List.mem_map.mp hd; exact hx x hx'
  have h1' := h1.shaped (by omega)
  simp only [toPy] at h1'
  have key : ∀ (xs : List α) (i : Nat), xs[i]? = some z → xs.Nodup → idxP (toPy (f z)) (toPys (xs.map f)) = some i := by
    intro xs
    induction xs with
    | nil => intro i h; simp at h
    | cons x xs ih =>
      intro i h nd
      rw [List.map_cons, toPys, idxP, E x z]
      cases i with
      | zero => simp at h; subst h; simp
      | succ i =>
        have h' : xs[i]? = some z := by simpa using h
        have hne : ¬ x = z := fun e => by subst e; exact (List.nodup_cons.mp nd).1 (List.mem_of_getElem? h')
        rw [if_neg (by simpa using hne), ih i h' (List.nodup_cons.mp nd).2]; rfl
  unfold gIndex
  rw [lstOf_l]
  show (if _ then _ else _) = _
  rw [if_pos ⟨(hx z hz).shaped (by omega), h1'⟩, key xs i hi nd]; rfl
end
theorem boolsD_map {α : Type} (p : α → Bool) : ∀ xs : List α, boolsD (xs.map fun x => .bl (p x)) = some (xs.map p)
  | [] => rfl
  | x :: xs => by rw [List.map_cons, boolsD, boolsD_map p xs]; rfl
theorem all_map_bl {α : Type} {o : Bool} (p : α → Bool) (xs : List α) : gAll [.lst o (xs.map fun x => .bl (p x))] = some (.bl (xs.all p)) := by
  rw [all_l, boolsD_map]; simp
end Hap
namespace Hap
open PySem PySem.Spec PyProof.Rows L2
variable [TabC]
mutual
/-- every node one's own -/
def ownAll : D → Bool
  | .lst o xs => o && ownAlls xs
  | .dct o _ xs => o && ownAlls xs
  | .dcT o _ xs => o && ownAlls xs
  | .tup _ => false
  | .rol _ => false
  | .gv _ => false
  | .obj _ _ _ _ => false
  | _ => true
def ownAlls : List D → Bool
  | [] => true
  | d :: ds => ownAll d && ownAlls ds
end
def vRes (r : RF) : Option D := match r with
  | .rt d _ => if flatD d = true then some d else none
  | _ => none
def oRes (r : RF) (ρ : Ev) : R D := match r with
  | .rt d _ => if ownAll d = true then .ok d ρ else .stk
  | _ => .stk
def vCall (n : Nat) (sem : Fn) (fa : Ev → Option (List D)) : Ev → Option D := fun ρ => (fa ρ).bind fun ds => if ds.length = n then vRes (sem (frzs ds)) else none
def fCallO (n : Nat) (sem : Fn) (fa : Ev → Option (List D)) : Ev → R D := fun ρ => match fa ρ with
  | some ds => if ds.length = n then oRes (sem (frzs ds)) ρ else .stk
  | none => .stk
section
variable {ρ : Ev} {d : D} {o : Ev}
omit [TabC] in
@[simp] theorem vRes_rt : vRes (.rt d o) = if flatD d = true then some d else none := (rfl)
omit [TabC] in
@[simp] theorem oRes_rt : oRes (.rt d o) ρ = if ownAll d = true then .ok d ρ else .stk := (rfl)
omit [TabC] in
@[simp] theorem ap_vcall {n sem fa} : vCall n sem fa ρ = (fa ρ).bind fun ds => if ds.length = n then vRes (sem (frzs ds)) else none := (rfl)
def fromV (x : Option (List D)) (k : List D → R D) : R D := match x with
  | some ds => k ds
  | none => .stk
omit [TabC] in
@[simp] theorem fromV_s {ds : List D} {k} : fromV (some ds) k = k ds := (rfl)
omit [TabC] in
@[simp] theorem ap_callO {n sem fa} : fCallO n sem fa ρ = fromV (fa ρ) fun ds => if ds.length = n then oRes (sem (frzs ds)) ρ else .stk := by unfold fCallO fromV; rfl
omit [TabC] in
@[simp] theorem flat_int {i} : flatD (.int i) = true := (rfl)
omit [TabC] in
@[simp] theorem flat_bl {i} : flatD (.bl i) = true := (rfl)
omit [TabC] in
@[simp] theorem flat_str {i} : flatD (.str i) = true := (rfl)
omit [TabC] in
@[simp] theorem flat_non : flatD .non = true := (rfl)
omit [TabC] in
@[simp] theorem own_int {i} : ownAll (.int i) = true := (rfl)
omit [TabC] in
@[simp] theorem own_bl {i} : ownAll (.bl i) = true := (rfl)
omit [TabC] in
@[simp] theorem own_str {i} : ownAll (.str i) = true := (rfl)
omit [TabC] in
@[simp] theorem own_non : ownAll .non = true := (rfl)
omit [TabC] in
@[simp] theorem own_lst {xs} : ownAll (.lst true xs) = ownAlls xs := (by simp [ownAll])
end
def hd1 (outs : Ev) : Option D := match outs[1]? with
  | some o => o
  | none => none
def fCallIO1 (j : Nat) (sem : Fn) (f1 : Ev → R D) : Ev → R D := fun ρ => (f1 ρ).bind fun d ρ1 => match ρ1[j]? with
  | some (some d0) => callR (sem [frz d, d0]) ρ1 fun outs => ρ1.set j (hd1 outs)
  | _ => .stk
def fOpNV (g : List D → Option D) (fa : Ev → Option (List D)) : Ev → R D := fun ρ => R.of ((fa ρ).bind g) ρ
section
variable {X : Cx} {RX : RXR} {W : WX} {x : Str} {p pos : Pos} {e : Expr} {es : List Expr} {f : Ev → Option (List D)}
theorem de_callBV {r : List V → Hp → VK → Prop} {g : List D → Option D} (h : PE X (.Call (.Name x p) (e :: es) [] pos) (tCB r (tAV X.K f))) (hv : VOpN X.K r g) : DE X RX W (.Call (.Name x p) (e :: es) [] pos) (fOpNV g f) := by
  refine pe_imp h fun σ H Q q => ?_
  obtain ⟨P, ρ, FE, S, q⟩ := q
  refine ⟨P, ρ, FE, S, ?_⟩
  unfold fOpNV at q
  cases e1 : f ρ with
  | none => simp only [e1, Option.bind, R.of] at q
  | some ds =>
    simp only [e1, Option.bind] at q
    intro vs P1 H1 n1 r1
    cases e2 : g ds with
    | none => simp only [e2, R.of] at q
    | some d =>
      simp only [e2, R.of] at q
      have S1 := n1.stt S
      exact hv P1 H1 ds vs d Q S1.pin r1 e2 fun u P2 H2 F2 n r => q u P2 H2 FE F2 (n.stt S1) (n.tmp S1 r) ((n1.tr (U0 := U FE)).less' |>.trans n.tr)
end
section
variable {ρ : Ev}
omit [TabC] in
@[simp] theorem ap_opNV {g fa} : fOpNV g fa ρ = R.of ((fa ρ).bind g) ρ := (rfl)
omit [TabC] in
@[simp] theorem hd1_c {a b : Option D} {os : Ev} : hd1 (a :: b :: os) = b := (rfl)
omit [TabC] in
@[simp] theorem ap_callIO1 {j sem f1} : fCallIO1 j sem f1 ρ = (f1 ρ).bind fun d ρ1 => isS ρ1[j]? fun d0 => callR (sem [frz d, d0]) ρ1 fun outs => ρ1.set j (hd1 outs) := by unfold fCallIO1 isS; rfl
end
def fClear (i : Nat) : Ev → RS := fun ρ => match ρ[i]? with
  | some (some (.lst true _)) => .nx (ρ.set i (some (.lst true [])))
  | _ => .stk
def fExtend (i : Nat) (f : Ev → R (List D)) : Ev → RS := fun ρ => match ρ[i]? with
  | some (some (.lst _ _)) => RS.of (f ρ) fun ds ρ1 => (match ds with
    | [.lst o zs] => (match ρ1[i]? with
      | some (some (.lst true xs)) => if xs.length + zs.length ≤ sizeLine then .nx (ρ1.set i (some (.lst true (xs ++ zs)))) else .stk
      | _ => .stk)
    | _ => .stk)
  | _ => .stk
omit [TabC] in
theorem rls_app2 {z : Bool} {K : PySem.W.Frag} {P : AS} {H : Hp} {es : List D} {ws : List V} {F2 : AS} : ∀ {ds : List D} {vs : List V} {F1 F : AS}, Rls z K P H ds vs F1 → Rls z K P H es ws F2 → (∀ b, F1 b → F b) → (∀ b, F2 b → F b) → (∀ b, F1 b → F2 b → False) → Rls z K P H (ds ++ es) (vs ++ ws) F
  | _, _, F1, F, .nil, r, _, s2, _ => rls_mono r (fun _ q => q) (fun _ _ e _ _ => e) s2
  | _, _, F1, F, .cons (F1 := G1) (F2 := G2) r' rs t1 t2 dj', r, s1, s2, dj =>
    .cons (F1 := G1) (F2 := fun b => G2 b ∨ F2 b) r' (rls_app2 rs r (fun _ q => .inl q) (fun _ q => .inr q) fun b q w => dj b (t2 b q) w) (fun b q => s1 b (t1 b q)) (fun b q => q.elim (fun q => s1 b (t2 b q)) (s2 b)) fun b q w => w.elim (dj' b q) (dj b (t1 b q))
section
variable {X : Cx} {RX : RXR} {W : WX} {kp : List Nat}
theorem ds_extend {s : Stmt} {i : Nat} {f : Ev → R (List D)} (h : PS X s (tDrop (tBM X.K "list" rExtend (tVar i) (tA X.K RX W f)))) : DS X RX W kp s (fExtend i f) := by
  refine ps_imp h fun D σ H q => ?_
  obtain ⟨P, ρ, FE, S, q⟩ := q
  unfold fExtend at q
  split at q
  · rename_i o xs e0
    obtain ⟨v, ev, r⟩ := S.rel i _ e0
    obtain ⟨p, vs, rfl, e, rs⟩ := lst_read r
    refine ⟨.ref p, ev, .inl ⟨rfl, vs, .inl (.inl e)⟩, P, ρ, FE, S, ?_⟩
    cases e1 : f ρ with
    | exc x ρ1 => simp only [e1, RS.of] at q; exact fun cls dx P' H' FE' S' t r => q cls dx σ P' H' FE' S' t Kp.refl r
    | stk => simp only [e1, RS.of] at q; exact q.elim
    | ok ds ρ1 =>
      simp only [e1, RS.of] at q
      intro ws P1 H1 FE1 F1 S1 T1 t1
      split at q
      · rename_i o2 zs
        split at q
        · rename_i ys e2
          split at q
          · rename_i hl
            obtain ⟨p', vs', F', ev', h1, h2, h3, h4⟩ := slot_lst S1 e2
            rw [ev] at ev'; cases ev'
            have nP := (S1.fin i p h2).2
            have nF1 : ¬ F1 p := fun z => (T1.own p z).2.2 ⟨i, h2⟩
            have nF' : ¬ F' p := fun z => (h3 p z).2 rfl
            obtain ⟨w, q0, us, rfl, hw, ru⟩ : ∃ (w : V) (q0 : Addr) (us : List V), ws = [.ref q0] ∧ H1 q0 = some (.lst us) ∧ Rls true X.K P1 H1 zs us F1 := by
              have rl := T1.rl
              cases rl with
              | cons r rs s1 s2 dj =>
                cases rs
                cases r with
                | lstO e f s r => exact ⟨.non, _, _, rfl, e, rls_mono r (fun _ q => q) (fun _ _ e _ _ => e) fun b z => s1 b (s b z).1⟩
                | lstI e p i r => exact ⟨.non, _, _, rfl, e, rls_mono r (fun _ q => q) (fun _ _ e _ _ => e) fun b z => z.elim⟩
            obtain ⟨S2, t2⟩ := slot_write (o := .lst (vs' ++ us)) (d' := .lst true (ys ++ zs)) S1 h1 .lst ev h2 T1.own (.lstO (F' := fun b => F' b ∨ F1 b) upd_same (fun _ => .inl h2) (fun b z => z.elim (fun z => ⟨.inl (h3 b z).1, (h3 b z).2⟩) fun z => ⟨.inr z, fun w => nF1 (by rw [← w]; exact z)⟩)
              (rls_app2 (rls_upd h4 nP nF') (rls_upd ru nP nF1) (fun _ z => .inl z) (fun _ z => .inr z) fun b z w => (T1.own b w).2.2 ⟨i, (h3 b z).1⟩))
            exact ⟨p, q0, vs', us, rfl, rfl, h1, hw, by rw [← rls_len h4, ← rls_len ru]; exact hl, q σ P1 _ _ S2 (t1.trans t2) Kp.refl⟩
          · exact q.elim
        · exact q.elim
      · exact q.elim
  · exact q.elim
end
def clrS (o : Option (Option D)) (i : Nat) (ρ : Ev) : RS := match o with
  | some (some (.lst true _)) => .nx (ρ.set i (some (.lst true [])))
  | _ => .stk
def extS (o : Option (Option D)) (i : Nat) (ds : List D) (ρ : Ev) : RS := match ds with
  | [.lst _ zs] => (match o with
      | some (some (.lst true xs)) => if xs.length + zs.length ≤ sizeLine then .nx (ρ.set i (some (.lst true (xs ++ zs)))) else .stk
      | _ => .stk)
  | _ => .stk
section
variable {ρ : Ev} {xs zs : List D} {i : Nat} {o : Bool}
omit [TabC] in
@[simp] theorem clrS_s : clrS (some (some (.lst true xs))) i ρ = .nx (ρ.set i (some (.lst true []))) := (rfl)
omit [TabC] in
@[simp] theorem ap_clear : fClear i ρ = clrS ρ[i]? i ρ := by unfold fClear clrS; rfl
omit [TabC] in
@[simp] theorem extS_s : extS (some (some (.lst true xs))) i [.lst o zs] ρ = if xs.length + zs.length ≤ sizeLine then .nx (ρ.set i (some (.lst true (xs ++ zs)))) else .stk := (rfl)
omit [TabC] in
@[simp] theorem ap_extend {f} : fExtend i f ρ = isLs ρ[i]? (RS.of (f ρ) fun ds ρ1 => extS ρ1[i]? i ds ρ1) := by unfold fExtend isLs extS; rfl
end
end Hap
namespace Hap
open PySem PySem.Spec PyProof.Rows L2
variable [TabC]
omit [TabC] in
theorem nodup_sub_len {α : Type} [DecidableEq α] : ∀ {xs ys : List α}, xs.Nodup → (∀ k ∈ xs, k ∈ ys) → xs.length ≤ ys.length
  | [], _, _, _ => by simp
  | x :: xs, ys, nd, h => by
    have nd' := List.nodup_cons.mp nd
    have hx := h x List.mem_cons_self
    have := nodup_sub_len (ys := ys.erase x) nd'.2 fun k hk => (List.mem_erase_of_ne (fun e => nd'.1 (by rw [← e]; exact hk))).mpr (h k (List.mem_cons_of_mem _ hk))
    rw [List.length_erase_of_mem hx] at this
    have := List.length_pos_of_mem hx
    rw [List.length_cons]; omega
end Hap
namespace Hap
open PySem PySem.Spec PyProof.Rows L2
variable [TabC]
def fCallF (n : Nat) (sem : Fn) (fa : Ev → R (List D)) : Ev → R D := fun ρ => (fa ρ).bind fun ds ρ1 => match ds with
  | d0 :: ds' => if ds'.length + 1 = n then callR (sem (d0 :: frzs ds')) ρ1 fun _ => ρ1 else .stk
  | [] => .stk
section
variable {X : Cx} {RX : RXR} {W : WX} {k n : Nat} {f : Addr} {fd : FuncData} {ps : List Str} {sem : Fn} {x : Str} {p pos : Pos} {e : Expr} {es : List Expr} {fa : Ev → R (List D)}
theorem de_callF {m : Nat} (F : FnOk X.prog X.w X.K X.mg X.base (L2N.CX X.prog X.w) k f fd ps (spD X.K RX (true :: List.replicate m false) sem)) (hr : Room k X.A) (hg : Gl X x) (hm : X.mg x = some (.ref f)) (hk : PySem.W.keepIn X.K (.ref f) = true) (hb : Binds X.K fd ps []) (tk : L2N.Takes X W)
    (ha : DA X RX W (e :: es) fa) (hdb : (x == ("__debug__" : Str)) = false := by decide)
    (he : starEach (e :: es) X.env = (false, eval e X.env) :: starEach es X.env := by rfl) (hpl : (backTo pos (starEach es X.env)).any (·.1) = false := by rfl) : DE X RX W (.Call (.Name x p) (e :: es) [] pos) (fCallF (m + 1) sem fa) := by
  refine pe_imp (pe_callS F hr hg hm hk hb (fun σ => L2N.passAt tk σ) ha hdb he hpl) fun σ H Q q => ?_
  obtain ⟨P, ρ, FE, S, q⟩ := q
  refine ⟨P, ρ, FE, S, ?_⟩
  unfold fCallF at q
  cases e1 : fa ρ with
  | exc x ρ1 => simp only [e1, R.bind] at q; exact q
  | stk => simp only [e1, R.bind] at q
  | ok ds ρ1 =>
    simp only [e1, R.bind] at q
    intro vs P1 H1 FE1 F1 S1 T1 t1
    cases ds with
    | nil => simp only at q
    | cons d0 ds =>
      simp only at q
      by_cases hl : ds.length + 1 = m + 1
      · simp only [if_pos hl] at q
        obtain ⟨Trl, Town⟩ := T1
        cases Trl with
        | cons r rs s1 s2 dj =>
          rename_i v0 vs Fa Fb
          have lv := rls_len rs
          have Sc := S1.give (F := Fb) fun b z => ⟨(Town b (s2 b z)).1, (Town b (s2 b z)).2.2⟩
          have nE : ∀ b, U (fun i b => i = 0 ∧ Fa b) b → Fa b := fun b ⟨_, z⟩ => z.2
          have Stc : Stt X.K (fun b => P1 b ∨ Fb b) H1 ((d0 :: frzs ds).map some) ((v0 :: vs).map some) (fun i b => i = 0 ∧ Fa b) := by
            refine ⟨Sc.pin, fun i b z => ⟨(Town b (s1 b z.2)).1, fun w => w.elim (Town b (s1 b z.2)).2.1 fun w => dj b z.2 w⟩, fun i i' b z w => z.1.trans w.1.symm, fun i d e2 => ?_, ?_, Sc.tab⟩
            · cases i with
              | zero =>
                simp only [List.map_cons, List.getElem?_cons_zero] at e2 ⊢
                cases e2
                exact ⟨v0, rfl, rl_mono r (fun _ q => .inl q) (fun _ _ e _ _ => e) fun b z => by first | exact ⟨rfl, z⟩ | exact ⟨trivial, z⟩⟩
              | succ i =>
                simp only [List.map_cons, List.getElem?_cons_succ] at e2 ⊢
                rw [List.getElem?_map] at e2
                cases e3 : (frzs ds)[i]? with
                | none => rw [e3] at e2; cases e2
                | some d' =>
                  rw [e3] at e2; cases e2
                  obtain ⟨v, e4, r⟩ := rls_get (rls_frz (z := true) (F' := E_) rs (fun b z => Or.inl z) fun b z => Or.inr z) e3
                  exact ⟨v, by rw [List.getElem?_map, e4]; rfl, rl_mono r (fun _ q => q) (fun _ _ e _ _ => e) fun b z => z.elim⟩
            · simp only [List.length_map, List.length_cons, frzs_len]; omega
          have t1' : Tr P H (U FE) (fun b => P1 b ∨ Fb b) H1 (fun b => Fa b ∨ U FE1 b) := by
            refine (Tr.give (U1 := fun b => Fa b ∨ U FE1 b) (F := Fb) (t1.less fun b z => ?_))
            rcases z with (z | z) | z
            · exact .inr (s1 b z)
            · exact .inl z
            · exact .inr (s2 b z)
          have after : ∀ {P2 : AS} {H2 : Hp} {FA' : FP} {F2 : AS}, (∀ b, P2 b → H2 b ≠ none) → LamX.Tabs TabC.T H2 → Tr (fun b => P1 b ∨ Fb b) H1 (U fun i b => i = 0 ∧ Fa b) P2 H2 (fun b => U FA' b ∨ F2 b) →
              Stt X.K P2 H2 ρ1 σ FE1 ∧ Tr P H (U FE) P2 H2 (fun b => U FE1 b ∨ F2 b) ∧ ∀ b, F2 b → ¬ U FE1 b := by
            intro P2 H2 FA' F2 pin2 tab2 t2
            refine ⟨⟨pin2, fun i b z => ?_, S1.dj, fun i d e2 => ?_, S1.len, tab2⟩, ?_, fun b z ⟨i, w⟩ => ?_⟩
            · obtain ⟨h1, h2⟩ := Sc.fin i b z
              refine ⟨t2.alive b h1, fun w => ?_⟩
              rcases t2.back b w with w | w | w
              · exact h2 w
              · exact (Town b (s1 b (nE b w))).2.2 ⟨i, z⟩
              · exact h1 w
            · obtain ⟨v, e4, r'⟩ := Sc.rel i d e2
              refine ⟨v, e4, rl_mono r' t2.mono (fun b o e q => t2.frame b o e fun z => ?_) fun b z => z⟩
              rcases q rfl with q | q
              · exact (Stc.fin 0 b ⟨rfl, nE b z⟩).2 q
              · exact (Town b (s1 b (nE b z))).2.2 ⟨i, q⟩
            · refine (Tr.seq (U1 := Fa) (F1 := U FE1) (U2 := F2) t1' ⟨fun b o e n => t2.frame b o e fun z => n (nE b z), t2.mono, fun b z => (t2.back b z).imp id fun w => w.imp (nE b) id, fun b z => (t2.sub b (.inr z)).imp (nE b) id, t2.alive⟩).less fun b z => z.symm
            · rcases t2.sub b (.inr z) with q | q
              · exact (Town b (s1 b (nE b q))).2.2 ⟨i, w⟩
              · exact (Sc.fin i b w).1 q
          refine ⟨by simp only [List.length_cons, List.length_replicate]; omega, fun b => P1 b ∨ Fb b, d0 :: frzs ds, _, Stc, fun i hi b z => ?_, ?_⟩
          · rw [z.1] at hi; exact hi rfl
          · cases e2 : sem (d0 :: frzs ds) with
            | stk => simp only [e2, callR] at q
            | rt d outs =>
              simp only [e2, callR] at q
              intro v P2 H2 FA' F2 S2 T2 t2
              obtain ⟨A1, A2, A3⟩ := after S2.pin S2.tab t2
              exact q v P2 H2 _ F2 A1 ⟨T2.rl, fun b z => ⟨(T2.own b z).1, (T2.own b z).2.1, A3 b z⟩⟩ A2
            | exc xx outs =>
              simp only [e2, callR] at q
              intro cls dx P2 H2 FA' S2 t2 r
              obtain ⟨A1, A2, A3⟩ := after (F2 := E_) S2.pin S2.tab (t2.less fun b z => z.elim id False.elim)
              exact q cls dx P2 H2 _ A1 A2.less' r
      · simp only [if_neg hl] at q
theorem de_callFC {j m : Nat} (C : Cal X.prog X.w X.K X.mg X.base RX x j (true :: List.replicate m false) sem) (hr : Room k X.A) (hj : j ≤ k) (hg : Gl X x) (tk : L2N.Takes X W) (ha : DA X RX W (e :: es) fa) (hdb : (x == ("__debug__" : Str)) = false := by decide)
    (he : starEach (e :: es) X.env = (false, eval e X.env) :: starEach es X.env := by rfl) (hpl : (backTo pos (starEach es X.env)).any (·.1) = false := by rfl) : DE X RX W (.Call (.Name x p) (e :: es) [] pos) (fCallF (m + 1) sem fa) := by
  obtain ⟨f, fd, ps, F, hm, hk, hb⟩ := C.ex
  exact de_callF F (hr.mono hj) hg hm hk hb tk ha hdb he hpl
end
def apF (sem : Fn) (n : Nat) (ds : List D) (ρ1 : Ev) : R D := match ds with
  | d0 :: ds' => if ds'.length + 1 = n then callR (sem (d0 :: frzs ds')) ρ1 fun _ => ρ1 else .stk
  | [] => .stk
omit [TabC] in
@[simp] theorem apF_c {sem : Fn} {n : Nat} {d0 : D} {ds : List D} {ρ : Ev} : apF sem n (d0 :: ds) ρ = if ds.length + 1 = n then callR (sem (d0 :: frzs ds)) ρ fun _ => ρ else .stk := (rfl)
omit [TabC] in
@[simp] theorem ap_callF {n : Nat} {sem : Fn} {fa : Ev → R (List D)} {ρ : Ev} : fCallF n sem fa ρ = (fa ρ).bind fun ds ρ1 => apF sem n ds ρ1 := by
  unfold fCallF apF; rfl
def revS (z : Str) : Str := ⟨z.cps.toList.reverse.toArray⟩
def gRevS (d : D) : Option D := match d with
  | .str z => if z.length ≤ sizeLine then some (.str (revS z)) else none
  | _ => none
omit [TabC] in
@[simp] theorem revS_s {z : Str} : gRevS (.str z) = if z.length ≤ sizeLine then some (.str (revS z)) else none := (rfl)
end Hap
namespace Hap
open PySem PySem.Spec PyProof.Rows L2 PySem.W
variable [TabC]
def fuel : Nat := 1000000
omit [TabC] in
theorem while_goes {c : Ev → R Bool} {g : Ev → RS} (I : Nat → Ev → Prop) (N : Ev → Prop) (T : D → Ev → Prop) (hs : ∀ m ρ, I m ρ → (∃ ρ1, c ρ = .ok false ρ1 ∧ N ρ1) ∨ ∃ ρ1, c ρ = .ok true ρ1 ∧ ((∃ ρ2 m', g ρ1 = .nx ρ2 ∧ m' < m ∧ I m' ρ2) ∨ ∃ d ρ2, g ρ1 = .rt d ρ2 ∧ T d ρ2)) :
    ∀ (n m : Nat) (ρ : Ev), I m ρ → m < n → Goes N T (whileS c g n ρ)
  | 0, m, ρ, _, h => absurd h (by omega)
  | n + 1, m, ρ, hI, h => by
    rw [whileS]
    rcases hs m ρ hI with ⟨ρ1, e1, h1⟩ | ⟨ρ1, e1, h1⟩
    · rw [e1]; exact .inl ⟨ρ1, rfl, h1⟩
    · rw [e1]
      rcases h1 with ⟨ρ2, m', e2, hm, h2⟩ | ⟨d, ρ2, e2, h2⟩
      · simp only [e2]; exact while_goes I N T hs n m' ρ2 h2 (by omega)
      · simp only [e2]; exact .inr ⟨d, ρ2, rfl, h2⟩
omit [TabC] in
@[simp] theorem ap_while {n : Nat} {c : Ev → R Bool} {g : Ev → RS} {ρ : Ev} : fWhile n c g ρ = whileS c g n ρ := (rfl)
end Hap
namespace Hap
open PySem PySem.Spec PyProof.Rows L2
variable [TabC]
def frzE (ρ : Ev) : Ev := ρ.map (Option.map frz)
def fLook (f : Ev → R D) : Ev → R D := fun ρ => match f (frzE ρ) with
  | .ok d _ => if ownAll d = true then .ok d ρ else .stk
  | _ => .stk
def lookR (r : R D) (ρ : Ev) : R D := match r with
  | .ok d _ => if ownAll d = true then .ok d ρ else .stk
  | _ => .stk
omit [TabC] in
@[simp] theorem lookR_ok {d : D} {ρ ρ' : Ev} : lookR (.ok d ρ') ρ = if ownAll d = true then .ok d ρ else .stk := (rfl)
omit [TabC] in
@[simp] theorem ap_look {f : Ev → R D} {ρ : Ev} : fLook f ρ = lookR (f (frzE ρ)) ρ := by unfold fLook lookR; rfl
omit [TabC] in
@[simp] theorem frzE_nil : frzE [] = [] := (rfl)
omit [TabC] in
@[simp] theorem frzE_c {o : Option D} {ρ : Ev} : frzE (o :: ρ) = o.map frz :: frzE ρ := (rfl)
end Hap
namespace Hap
open PySem PySem.Spec PyProof.Rows L2
variable [TabC]
mutual
/-- no list or dict in it -/
def noL : D → Bool
  | .lst _ _ => false
  | .dct _ _ _ => false
  | .dcT _ _ _ => false
  | .rol _ => false
  | .gv _ => false
  | .obj _ _ _ _ => false
  | .tup xs => noLs xs
  | _ => true
def noLs : List D → Bool
  | [] => true
  | d :: ds => noL d && noLs ds
end
def tRes (r : RF) (ρ : Ev) : R D := match r with
  | .rt d _ => if noL d = true then .ok d ρ else .stk
  | _ => .stk
def fCallT (n : Nat) (sem : Fn) (fa : Ev → Option (List D)) : Ev → R D := fun ρ => match fa ρ with
  | some ds => if ds.length = n then tRes (sem (frzs ds)) ρ else .stk
  | none => .stk
section
variable {ρ : Ev} {d : D} {o : Ev} {ds : List D}
omit [TabC] in
@[simp] theorem tRes_rt : tRes (.rt d o) ρ = if noL d = true then .ok d ρ else .stk := (rfl)
omit [TabC] in
@[simp] theorem ap_callT {n sem fa} : fCallT n sem fa ρ = fromV (fa ρ) fun ds => if ds.length = n then tRes (sem (frzs ds)) ρ else .stk := by unfold fCallT fromV; rfl
omit [TabC] in
@[simp] theorem noL_non : noL .non = true := (rfl)
omit [TabC] in
@[simp] theorem noL_int {i} : noL (.int i) = true := (rfl)
omit [TabC] in
@[simp] theorem noL_str {i} : noL (.str i) = true := (rfl)
omit [TabC] in
@[simp] theorem noL_bl {i} : noL (.bl i) = true := (rfl)
omit [TabC] in
@[simp] theorem noL_tup : noL (.tup ds) = noLs ds := (by simp [noL])
omit [TabC] in
@[simp] theorem noLs_nil : noLs [] = true := (rfl)
omit [TabC] in
@[simp] theorem noLs_cons : noLs (d :: ds) = (noL d && noLs ds) := (rfl)
end
end Hap
namespace Hap
open PySem PySem.Spec PyProof.Rows L2
end Hap
namespace Hap
open PySem PySem.Spec PyProof.Rows L2
end Hap
namespace Hap
open PySem PySem.Spec PyProof.Rows L2
end Hap
namespace Hap
open PySem PySem.Spec PyProof.Rows L2
variable [TabC]
def keysT (d : D) : Option (List Key) := match d with
  | .tup ds => keysOf ds
  | _ => none
def putD (o : D) (e d : D) : Option D := match o with
  | .dct true ks xs => (match keyOf e with
    | some c => if xs.length < sizeLine then some (.dct true (putKs ks xs c d).1 (putKs ks xs c d).2) else none
    | none => none)
  | .dcT true ks xs => (match keysT e with
    | some c => if xs.length < sizeLine then some (.dcT true (putKs ks xs c d).1 (putKs ks xs c d).2) else none
    | none => none)
  | _ => none
def fPutD (i : Nat) (f k : Ev → R D) : Ev → RS := fun ρ => RS.of (f ρ) fun d ρ1 => match ρ1[i]? with
  | some (some _) => RS.of (k ρ1) fun e ρ2 => (match ρ2[i]? with
    | some (some o) => (match putD o e (frz d) with
      | some o' => .nx (ρ2.set i (some o'))
      | none => .stk)
    | _ => .stk)
  | _ => .stk
omit [TabC] in
theorem Tr.noF {P P' : AS} {H H' : Hp} {U U' : AS} (t : Tr P H (fun b => U b ∨ E_ b) P' H' U') : Tr P H U P' H' U' where
  frame := fun b o e n => t.frame b o e fun z => z.elim n fun w => w.elim
  mono := t.mono
  back := fun b z => (t.back b z).imp id fun w => w.imp (fun u => u.elim id fun w => w.elim) id
  sub := fun b z => (t.sub b z).imp (fun u => u.elim id fun w => w.elim) id
  alive := t.alive
section
variable {X : Cx} {RX : RXR} {W : WX} {kp : List Nat}
theorem ds_putD {s : Stmt} {i : Nat} {f k : Ev → R D} (h : PS X s (tAsg (tE X.K RX W f) (L2.gSub (tVar i) (tE X.K RX W k) rSetD))) : DS X RX W kp s (fPutD i f k) := by
  refine ps_imp h fun D σ H q => ?_
  obtain ⟨P, ρ, FE, S, q⟩ := q
  refine ⟨P, ρ, FE, S, ?_⟩
  unfold fPutD at q
  cases e : f ρ with
  | exc x ρ1 => simp only [e, RS.of] at q; exact fun cls dx P' H' FE' S' t r => q cls dx σ P' H' FE' S' t Kp.refl r
  | stk => simp only [e, RS.of] at q; exact q.elim
  | ok d ρ1 =>
    simp only [e, RS.of] at q
    intro v P1 H1 FE1 F1 S1 T1 t1
    split at q
    · rename_i d0 e0
      obtain ⟨vp, ev, _⟩ := S1.rel i _ e0
      have S1' := S1.give fun b z => ⟨(T1.own b z).1, (T1.own b z).2.2⟩
      have t1' := t1.give
      have rd : Rl true X.K (fun b => P1 b ∨ F1 b) H1 (frz d) v E_ := rl_frz T1.rl (fun b z => .inl z) fun b z => .inr z
      refine ⟨vp, ev, _, ρ1, FE1, S1', ?_⟩
      cases e1 : k ρ1 with
      | exc x ρ2 => simp only [e1] at q; exact fun cls dx P' H' FE' S' t r => q cls dx σ P' H' FE' S' (t1'.trans t) Kp.refl r
      | stk => simp only [e1] at q; exact q.elim
      | ok ee ρ2 =>
        simp only [e1] at q
        intro w P2 H2 FE2 F2 S2 T2 t2
        have rd2 : Rl true X.K P2 H2 (frz d) v E_ := rl_mono rd (fun b z => t2.mono b z) (fun b o e z => t2.frame b o e fun ⟨j, y⟩ => (S1'.fin j b y).2 ((z rfl).elim id False.elim)) fun _ z => z
        split at q
        · rename_i o e3
          cases eg : putD o ee (frz d) with
          | none => simp only [eg] at q; exact q.elim
          | some o' =>
            simp only [eg] at q
            unfold putD at eg
            split at eg
            · rename_i ks xs
              split at eg
              · rename_i c ec
                by_cases hl : xs.length < sizeLine
                · rw [if_pos hl] at eg; cases eg
                  obtain ⟨p, vs, F', ev', h1, l, h2, h3, h4⟩ := slot_dct S2 e3
                  rw [ev] at ev'; cases ev'
                  have nP := (S2.fin i p h2).2
                  have nF' : ¬ F' p := fun z => (h3 p z).2 rfl
                  obtain ⟨vs', k1, k2, k3⟩ := put_ok (rls_upd (o := .dK (putK (ks.zip vs) c v)) h4 nP nF') (isImm_frz d) (rl_upd rd2 nP fun z => z) l (k := c)
                  obtain ⟨S3, t3⟩ := slot_write (F1 := E_) (o := .dK (putK (ks.zip vs) c v)) (d' := .dct true (putKs ks xs c (frz d)).1 (putKs ks xs c (frz d)).2) S2 h1 .dK ev h2 (fun b z => z.elim)
                    (.dctO (F' := F') upd_same k1 k2 (fun _ => .inl h2) (fun b z => ⟨.inl (h3 b z).1, (h3 b z).2⟩) k3)
                  have hz : (ks.zip vs).length < sizeLine := by rw [List.length_zip, l, Nat.min_self, ← rls_len h4]; exact hl
                  exact ⟨p, _, rfl, .inl ⟨_, c, h1, keyOf_rl T2.rl ec, hz, rfl⟩, q σ P2 _ _ S3 (t1'.trans (t2.less'.trans (Tr.noF t3))) Kp.refl⟩
                · rw [if_neg hl] at eg; cases eg
              · cases eg
            · rename_i ks xs
              split at eg
              · rename_i c ec
                by_cases hl : xs.length < sizeLine
                · rw [if_pos hl] at eg; cases eg
                  obtain ⟨p, vs, F', ev', h1, l, h2, h3, h4⟩ := slot_dcT S2 e3
                  rw [ev] at ev'; cases ev'
                  have nP := (S2.fin i p h2).2
                  have nF' : ¬ F' p := fun z => (h3 p z).2 rfl
                  obtain ⟨vs', k1, k2, k3⟩ := put_ok (rls_upd (o := .dT (putK (ks.zip vs) c v)) h4 nP nF') (isImm_frz d) (rl_upd rd2 nP fun z => z) l (k := c)
                  obtain ⟨S3, t3⟩ := slot_write (F1 := E_) (o := .dT (putK (ks.zip vs) c v)) (d' := .dcT true (putKs ks xs c (frz d)).1 (putKs ks xs c (frz d)).2) S2 h1 .dT ev h2 (fun b z => z.elim)
                    (.dcTO (F' := F') upd_same k1 k2 (fun _ => .inl h2) (fun b z => ⟨.inl (h3 b z).1, (h3 b z).2⟩) k3)
                  have hz : (ks.zip vs).length < sizeLine := by rw [List.length_zip, l, Nat.min_self, ← rls_len h4]; exact hl
                  unfold keysT at ec
                  split at ec
                  · rename_i ds
                    cases T2.rl with
                    | tup eb pb rb =>
                      rw [keysOf_rls rb ec] at eb
                      exact ⟨p, _, rfl, .inr ⟨_, c, _, h1, rfl, eb, hz, rfl⟩, q σ P2 _ _ S3 (t1'.trans (t2.less'.trans (Tr.noF t3))) Kp.refl⟩
                  · cases ec
                · rw [if_neg hl] at eg; cases eg
              · cases eg
            · cases eg
        · exact q.elim
    · exact q.elim
end
def fDNewK : Ev → R D := fun ρ => .ok (.dct true [] []) ρ
def fDNewT : Ev → R D := fun ρ => .ok (.dcT true [] []) ρ
section
variable {X : Cx} {RX : RXR} {W : WX} {pos : Pos}
theorem de_dnewT : DE X RX W (.Dict [] [] pos) fDNewT := by
  refine pe_imp pe_dnewT fun σ H Q q => ?_
  obtain ⟨P, ρ, FE, S, q⟩ := q
  intro p hp
  have n : New P H P (upd H p (.dT [])) (fun b => b = p) := New.lst hp S.pin
  have r : Rl true X.K P (upd H p (.dT [])) (.dcT true [] []) (.ref p) (fun b => b = p) := .dcTO (F' := E_) (vs := []) upd_same rfl rfl (fun _ => rfl) (fun b z => z.elim) .nil
  exact q (.ref p) P _ FE _ (n.stt S) (n.tmp S r) n.tr
end
def putR (o : Option (Option D)) (i : Nat) (e d : D) (ρ : Ev) : RS := match o with
  | some (some o) => (match putD o e (frz d) with
    | some o' => .nx (ρ.set i (some o'))
    | none => .stk)
  | _ => .stk
omit [TabC] in
@[simp] theorem ap_dnewK {ρ : Ev} : fDNewK ρ = .ok (.dct true [] []) ρ := (rfl)
omit [TabC] in
@[simp] theorem ap_dnewT {ρ : Ev} : fDNewT ρ = .ok (.dcT true [] []) ρ := (rfl)
omit [TabC] in
@[simp] theorem ap_putD {i : Nat} {f k : Ev → R D} {ρ : Ev} : fPutD i f k ρ = RS.of (f ρ) fun d ρ1 => isSS ρ1[i]? (RS.of (k ρ1) fun e ρ2 => putR ρ2[i]? i e d ρ2) := by
  unfold fPutD isSS putR; rfl
end Hap
namespace Hap
open PySem PySem.Spec PyProof.Rows L2
variable [TabC]
def isDct (d : D) : Bool := match d with
  | .dct _ _ _ => true
  | .dcT _ _ _ => true
  | _ => false
def dctO (o : Option (Option D)) (k : R D) : R D := match o with
  | some (some o0) => if isDct o0 = true then k else .stk
  | _ => .stk
end Hap
namespace Hap
open PySem PySem.Spec PyProof.Rows L2
end Hap
namespace Hap
open PySem PySem.Spec PyProof.Rows L2
variable [TabC]
def gMulX (d e : D) : Option D := match d, e with
  | .int i, .int j => gMul (.int i) (.int j)
  | .str x, .int k => if 0 ≤ k ∧ k ≤ 1000000 ∧ x.length ≤ 1000000 ∧ x.length * k.toNat ≤ sizeLine then some (.str (Txt.mul x k)) else none
  | _, _ => none
omit [TabC] in
@[simp] theorem mulX_ii {i j} : gMulX (.int i) (.int j) = if CMul i j then some (.int (i * j)) else none := (rfl)
end Hap
namespace Hap
open PySem PySem.Spec PyProof.Rows L2
variable [TabC]
def excN : List Str := ["NoHouse", "NoRow", "NoMachine", "NoRoom", "NoHand", "Unlike", "NoPast", "TooMany", "Torn", "NoTable", "NoSet", "Falls", "Whole", "NoText", "NoWord"]
abbrev bmV : List Value := [.type "ValueError", .type "Exception", .type "BaseException", .type "object"]
/-- what the written part says of a class of refusals at C, right under the one at CH -/
structure EC (K : PySem.W.Frag) (CH C : Addr) : Prop where
  cl : ∃ cd, PySem.W.clsIn K C = some cd ∧ cd.mro = .ref C :: .ref CH :: bmV
  ty : PySem.W.typeIn K (.ref C) = some (.type "type")
  kp : PySem.W.keepIn K (.ref C) = true
  ga : PySem.W.findIn K (.ref C) "__getattribute__" = some (some (.builtin "BaseException.__getattribute__"))
  gt : PySem.W.findIn K (.ref C) "__getattr__" = some none
  ca : PySem.W.findIn K (.ref C) "__class__" = some (some (.builtin "object.__class__"))
structure ETab (K : PySem.W.Frag) (mg : Str → Option Value) (CH : Addr) (cs : List Addr) : Prop where
  len : cs.length = 15
  g : ∀ (i : Nat) (C : Addr) (n : Str), cs[i]? = some C → excN[i]? = some n → mg n = some (.ref C)
  ent : ∀ C ∈ cs, EC K CH C
  nd : (CH :: cs).Nodup
  gH : mg "HandError" = some (.ref CH)
  clH : ∃ cd, PySem.W.clsIn K CH = some cd ∧ cd.mro = .ref CH :: bmV
  tyH : PySem.W.typeIn K (.ref CH) = some (.type "type")
  nn : PySem.W.specialIn K (.builtin "object.__class__") "__get__" = some (some (.builtin "getset_descriptor.__get__"))
  tk : PySem.W.takesIn K (.builtin "object.__class__") = some true
section
variable {K : PySem.W.Frag} {mg : Str → Option Value} {CH C C' : Addr} {cs : List Addr} {i j : Nat}
omit [TabC] in
theorem EC.sub (c : EC K CH C) (v : Value) : PySem.W.subIn K (.ref C) v = some ((Value.ref C :: .ref CH :: bmV).contains v) := by
  obtain ⟨cd, e, m⟩ := c.cl
  show PySem.W.mroIn K C v = _
  unfold PySem.W.mroIn
  rw [e, Option.bind_some, m]; rfl
omit [TabC] in
theorem ETab.ne (T : ETab K mg CH cs) (hi : cs[i]? = some C) (hj : cs[j]? = some C') : (C = C') = (i = j) := by
  have nd := (List.nodup_cons.mp T.nd).2
  have hi' := (List.getElem?_eq_some_iff.mp hi)
  obtain ⟨li, ei⟩ := hi'
  obtain ⟨lj, ej⟩ := List.getElem?_eq_some_iff.mp hj
  rw [← ei, ← ej, eq_iff_iff]
  constructor
  · intro e
    have h1 : cs[i]? = some C' := by rw [hi, ← ei, e, ej]
    by_cases z : i = j
    · exact z
    · exfalso
      have := List.pairwise_iff_getElem.mp nd
      rcases Nat.lt_or_gt_of_ne z with l | l
      · exact this i j li lj l e
      · exact this j i lj li l e.symm
  · intro e; subst e; rfl
end
structure FnHp (P : Program) (w : World) (K : PySem.W.Frag) (mg : Str → Option Value) (base : Heap) (CX : CXT) (k : Nat) (f : Addr) (fd : FuncData) (ps : List Str) (sp : Addr × Obj → Sp) : Prop where
  len : ∀ p vs H Q E, sp p vs H Q E → vs.length = ps.length
  run : ∀ (A : Around) (outer : List Env) (s : Shared) (H : Hp) (args : Args) (us : List Value) (vs : List V) (Q : VK) (E : XK) (p : Addr × Obj), L2H.RoomH k A → L2H.Hot1 A p → L2H.PinOk outer H s p → Env0 P w K mg base A outer s H → BindsTo s fd args (ps.zip us) → Vals vs us → sp p vs H Q E →
    codeAny (model P w) A (.call (.ref f) args) (CR CX outer P w H s Q E) s
end Hap
namespace Hap
open PySem PySem.Spec PyProof.Rows L2
variable [TabC]
def vIsE (i : Nat) (a : Addr) (b : Bool) : Ev → Option D := fun ρ => match ρ[i]? with
  | some (some (.gv (.ref a'))) => if a' = a then some (.bl b) else none
  | _ => none
/-- all stands as it did, more may stand beside -/
def Up (H H' : Hp) : Prop := (∀ b o, H b = some o → NT o → H' b = some o) ∧ (∀ b, H b ≠ none → H' b ≠ none) ∧ LamX.Tabs TabC.T H'
end Hap
namespace Hap
open PySem PySem.Spec PyProof.Rows L2
variable [TabC]
section
variable {X : Cx} {CH : Addr} {cs : List Addr} {i k : Nat} {x : Str} {f : Addr} {fd : FuncData} {ps : List Str} {a : Addr} {oe : Obj} {cls : Value} {d : Option Addr} {pn : List (Addr × Obj)}
omit [TabC] in
theorem FnHp.mono {P : Program} {w : World} {K : PySem.W.Frag} {mg : Str → Option Value} {base : Heap} {CX : CXT} {j k : Nat} {f : Addr} {fd : FuncData} {ps : List Str} {sp : Addr × Obj → Sp} (F : FnHp P w K mg base CX j f fd ps sp) (h : j ≤ k) : FnHp P w K mg base CX k f fd ps sp :=
  ⟨F.len, fun A outer s H args us vs Q E p hr => F.run A outer s H args us vs Q E p (hr.mono h)⟩
theorem Up.new {P : AS} {H H' : Hp} (u : Up H H') : New P H P H' E_ := ⟨u.1, u.2.1, fun _ => u.2.2, fun _ z => z, fun _ z => .inl z, fun _ z => z.elim⟩
end
end Hap
namespace Hap
open PySem PySem.Spec PyProof.Rows L2
variable [TabC]
omit [TabC] in
@[simp] theorem ap_isE {i : Nat} {a : Addr} {b : Bool} {ρ : Ev} (h : ρ[i]? = some (some (.gv (.ref a)))) : vIsE i a b ρ = some (.bl b) := by
  unfold vIsE; rw [h]; simp
end Hap
namespace Hap
open PySem PySem.Spec PyProof.Rows L2
variable [TabC]
def fFz (f : Ev → R D) : Ev → R D := fun ρ => (f ρ).bind fun d ρ' => .ok (frz d) ρ'
section
variable {X : Cx} {RX : RXR} {W : WX} {e : Expr}
theorem de_fz {f : Ev → R D} (h : DE X RX W e f) : DE X RX W e (fFz f) := by
  refine pe_imp h fun σ H Q q => ?_
  obtain ⟨P, ρ, FE, S, q⟩ := q
  refine ⟨P, ρ, FE, S, ?_⟩
  unfold fFz at q
  cases e1 : f ρ with
  | exc x ρ1 => simp only [e1, R.bind] at q; exact q
  | stk => simp only [e1, R.bind] at q
  | ok d ρ1 =>
    simp only [e1, R.bind] at q
    intro v P1 H1 FE1 F1 S1 T1 t1
    exact q v (fun b => P1 b ∨ F1 b) H1 FE1 E_ (S1.give fun b z => ⟨(T1.own b z).1, (T1.own b z).2.2⟩) ⟨rl_frz T1.rl (fun b z => .inl z) (fun b z => .inr z), fun b z => z.elim⟩ (t1.give.less fun b z => z.elim id False.elim)
end
omit [TabC] in
@[simp] theorem ap_fz {f : Ev → R D} {ρ : Ev} : fFz f ρ = (f ρ).bind fun d ρ' => .ok (frz d) ρ' := (rfl)
end Hap
namespace Hap
open PySem PySem.Spec PyProof.Rows L2
end Hap
namespace Hap
open PySem PySem.Spec PyProof.Rows L2
end Hap
namespace Hap
open PySem PySem.Spec PyProof.Rows L2
variable [TabC]
/-- what is wished of a refusal -/
def EAns (K : PySem.W.Frag) (cs : List Addr) (Q : VK) : XK := fun cls d H => d = none ∧ LamX.Tabs TabC.T H ∧ ∃ (j : Nat) (C : Addr) (nm : Str), cs[j]? = some C ∧ excN[j]? = some nm ∧ cls = .ref C ∧
  ∃ P : AS, (∀ b, P b → H b ≠ none) ∧ ∀ v P' H', New P H P' H' E_ → Rl true K P' H' (.tup [.str "refused", .str nm]) v E_ → Q v H'
def TAns (K : PySem.W.Frag) (cs : List Addr) (tl : XK → Hp → VK → Prop) (H : Hp) (Q : VK) : Prop := ∀ (E' : XK) (Q' : VK), (∀ cls d H', EAns K cs Q cls d H' → E' cls d H') →
  (∀ v H', (∀ p, H' p = none → Q (.ref p) (upd H' p (.tup [.str "told", v]))) → Q' v H') → tl E' H Q'
omit [TabC] in
theorem Up.stt [TabC] {K : PySem.W.Frag} {P : AS} {H H' : Hp} {ρ : Ev} {σ : L2.St} {FE : FP} (u : Up H H') (S : Stt K P H ρ σ FE) : Stt K P H' ρ σ FE := (u.new (P := P)).stt S
theorem Up.trans {H H1 H2 : Hp} (u : Up H H1) (v : Up H1 H2) : Up H H2 := ⟨fun b o e n => v.1 b o (u.1 b o e n) n, fun b e => v.2.1 b (u.2.1 b e), v.2.2⟩
mutual
/-- every list and dict one's own; tuples -/
def newAll : D → Bool
  | .lst o xs => o && newAlls xs
  | .dct o _ xs => o && newAlls xs
  | .dcT o _ xs => o && newAlls xs
  | .tup xs => newAlls xs
  | .rol _ => false
  | .gv _ => false
  | .obj _ _ _ _ => false
  | _ => true
def newAlls : List D → Bool
  | [] => true
  | d :: ds => newAll d && newAlls ds
end
def fAns (g : Ev → R D) : Ev → R D := fun ρ => match g (frzE ρ) with
  | .ok d _ => if newAll d = true then .ok (.tup [.str "told", d]) ρ else .stk
  | .exc x _ => if x.args.isEmpty = true then .ok (.tup [.str "refused", .str x.cls]) ρ else .stk
  | .stk => .stk
/-- the refusal alone -/
def fRef (g : Ev → R D) (n : Str) : Ev → R D := fun ρ => match g (frzE ρ) with
  | .exc x _ => if x.args.isEmpty = true then .ok (.bl (decide (x.cls = n))) ρ else .stk
  | _ => .stk
end Hap
namespace Hap
open PySem PySem.Spec PyProof.Rows L2
variable [TabC]
theorem TAns.imp {K : PySem.W.Frag} {cs : List Addr} {tl : XK → Hp → VK → Prop} {H : Hp} {Q Q' : VK} (h : TAns K cs tl H Q) (w : ∀ v H', Q v H' → Q' v H') : TAns K cs tl H Q' := fun E1 Q1 hE hQ => by
  refine h E1 Q1 (fun cls d H' z => hE cls d H' ?_) fun v H' z => hQ v H' fun p hp => w _ _ (z p hp)
  obtain ⟨h1, h2, j, C, nm, h3, h4, h5, P, h6, h7⟩ := z
  exact ⟨h1, h2, j, C, nm, h3, h4, h5, P, h6, fun v P' H'' n r => w _ _ (h7 v P' H'' n r)⟩
end Hap
namespace Hap
open PySem PySem.Spec PyProof.Rows L2
end Hap
namespace Hap
open PySem PySem.Spec PyProof.Rows L2
variable [TabC]
def gUpper (d : D) : Option D := match d with
  | .str x => if x.length ≤ 5592405 then some (.str (Txt.upper x)) else none
  | _ => none
omit [TabC] in
@[simp] theorem upper_s {x : Str} : gUpper (.str x) = if x.length ≤ 5592405 then some (.str (Txt.upper x)) else none := (rfl)
end Hap
namespace Hap
open PySem PySem.Spec PyProof.Rows L2
def refR (r : R D) (n : Str) (ρ : Ev) : R D := match r with
  | .exc x _ => if x.args.isEmpty = true then .ok (.bl (decide (x.cls = n))) ρ else .stk
  | _ => .stk
def ansR (r : R D) (ρ : Ev) : R D := match r with
  | .ok d _ => if newAll d = true then .ok (.tup [.str "told", d]) ρ else .stk
  | .exc x _ => if x.args.isEmpty = true then .ok (.tup [.str "refused", .str x.cls]) ρ else .stk
  | .stk => .stk
section
variable {g : Ev → R D} {ρ ρ' : Ev} {n c : Str} {d : D}
@[simp] theorem ap_refL : fRef g n ρ = refR (g (frzE ρ)) n ρ := by unfold fRef refR; rfl
@[simp] theorem refR_exc : refR (.exc ⟨c, []⟩ ρ') n ρ = .ok (.bl (decide (c = n))) ρ := (rfl)
@[simp] theorem ap_ansL : fAns g ρ = ansR (g (frzE ρ)) ρ := by unfold fAns ansR; rfl
@[simp] theorem ansR_exc : ansR (.exc ⟨c, []⟩ ρ') ρ = .ok (.tup [.str "refused", .str c]) ρ := (rfl)
@[simp] theorem ansR_ok : ansR (.ok d ρ') ρ = if newAll d = true then .ok (.tup [.str "told", d]) ρ else .stk := (rfl)
end
section
variable {d : D} {ds : List D}
@[simp] theorem nw_int {i} : newAll (.int i) = true := (rfl)
@[simp] theorem nw_bl {i} : newAll (.bl i) = true := (rfl)
@[simp] theorem nw_str {i} : newAll (.str i) = true := (rfl)
@[simp] theorem nw_non : newAll .non = true := (rfl)
@[simp] theorem nw_lst : newAll (.lst true ds) = newAlls ds := (by simp [newAll])
@[simp] theorem nw_tup : newAll (.tup ds) = newAlls ds := (by simp [newAll])
@[simp] theorem nws_nil : newAlls [] = true := (rfl)
@[simp] theorem nws_cons : newAlls (d :: ds) = (newAll d && newAlls ds) := (rfl)
end
end Hap
namespace Hap
open PySem PySem.Spec PyProof.Rows L2
variable [TabC]
def gRevL (d : D) : Option D := match d with
  | .lst _ xs => if isImms xs = true then some (.lst true xs.reverse) else none
  | _ => none
omit [TabC] in
@[simp] theorem revL_l {o : Bool} {xs : List D} : gRevL (.lst o xs) = if isImms xs = true then some (.lst true xs.reverse) else none := (rfl)
end Hap
namespace Hap
open PySem PySem.Spec PyProof.Rows L2
variable [TabC]
section
variable {K : PySem.W.Frag} {P : AS} {H : Hp}
def appP : List Int → D → D → Option D
  | [], e, d => (match d with
    | .lst true xs => if xs.length < sizeLine then some (.lst true (xs ++ [e])) else none
    | _ => none)
  | j :: js, e, d => (match d with
    | .tup ds => (ixN ds.length j).bind fun k => (ds[k]?).bind fun d0 => (appP js e d0).map fun d' => .tup (ds.set k d')
    | .lst true ds => (ixN ds.length j).bind fun k => (ds[k]?).bind fun d0 => (appP js e d0).map fun d' => .lst true (ds.set k d')
    | _ => none)
end
def fAppP (i : Nat) (js : List Int) (n : Int) : Ev → RS := fun ρ => match ρ[i]? with
  | some (some d) => (match appP js (.int n) d with
    | some d2 => .nx (ρ.set i (some d2))
    | none => .stk)
  | _ => .stk
def setQ (o : Option D) (i : Nat) (ρ : Ev) : RS := match o with
  | some d2 => .nx (ρ.set i (some d2))
  | none => .stk
def setP (js : List Int) (n : Int) (o : Option (Option D)) (i : Nat) (ρ : Ev) : RS := match o with
  | some (some d) => setQ (appP js (.int n) d) i ρ
  | _ => .stk
section
variable {ρ : Ev} {i : Nat} {js : List Int} {n : Int} {d : D}
omit [TabC]
@[simp] theorem ap_appP : fAppP i js n ρ = setP js n ρ[i]? i ρ := (rfl)
@[simp] theorem setP_s : setP js n (some (some d)) i ρ = setQ (appP js (.int n) d) i ρ := (rfl)
@[simp] theorem setQ_s : setQ (some d) i ρ = .nx (ρ.set i (some d)) := (rfl)
end
def gSplit (d : D) (ds : List D) : Option D := match d with
  | .str a => (match ds with
    | [.str b] => if (b.length == 0) = false ∧ a.length + 2 ≤ sizeLine then some (.lst true ((Txt.split a b).map D.str)) else none
    | _ => none)
  | _ => none
section
omit [TabC]
@[simp] theorem split_s {a b : Str} : gSplit (.str a) [.str b] = if (b.length == 0) = false ∧ a.length + 2 ≤ sizeLine then some (.lst true ((Txt.split a b).map D.str)) else none := (rfl)
end
end Hap
namespace Hap
open PySem PySem.Spec PyProof.Rows L2
variable [TabC]
/-- the keys as data -/
def keyD : Key → D
  | .inl n => .int n
  | .inr x => .str x
def iKey (i : Nat) : Ev → R (List D) := fun ρ => match ρ[i]? with
  | some (some (.dct false ks _)) => .ok (ks.map keyD) ρ
  | _ => .stk
section
variable {ρ : Ev} {i : Nat}
def keyR (o : Option (Option D)) (ρ : Ev) : R (List D) := match o with
  | some (some (.dct false ks _)) => .ok (ks.map keyD) ρ
  | _ => .stk
omit [TabC] in
@[simp] theorem ap_key : iKey i ρ = keyR ρ[i]? ρ := by unfold iKey keyR; rfl
omit [TabC] in
@[simp] theorem keyR_s {ks : List Key} {xs : List D} : keyR (some (some (.dct false ks xs))) ρ = .ok (ks.map keyD) ρ := (rfl)
end
end Hap
namespace Hap
open PySem PySem.Spec PyProof.Rows L2
end Hap
namespace M
open PySem PySem.Spec PyProof.Rows L2 Hap
def b__law_bag : Ev → RS :=
  (fSeq (fIf (fTv (vOp2 gGe (vOpN gAbs (vCons (vVar 0) vNil)) (vOp2 gPow (vK (.int 10)) (vK (.int 18)))))
    (fRet (fLst (fCons (fI (vOpN gAbs (vCons (vVar 0) vNil))) (fCons (fK (.int 0)) fNil))))
    fNext)
    (fRet (fLst (fCons (fI (vOp2 gMod (vVar 0) (vK (.int 2147483647)))) (fCons (fK (.int 1)) fNil)))))
def m__law_bag : Fn := semOf (List.replicate 1 false) 1 b__law_bag
def b__law_take : Ev → RS :=
  (fSeq (fIf (fTv (vOp2 gEq (vOp2 gIx (vVar 0) (vK (.int 1))) (vK (.int 0))))
    (fSeq (fAsg (fI (vOp2 gMod (vOp2 gIx (vVar 0) (vK (.int 0))) (vVar 1))) (gN 2))
    (fSeq (fSetL 0 (fI (vOp2 gFdiv (vOp2 gIx (vVar 0) (vK (.int 0))) (vVar 1))) (fK (.int 0)))
    (fRet (fMv 2))))
    fNext)
    (fSeq (fSetL 0 (fI (vOp2 gMod (vOp2 gAdd (vOp2 gAdd (vOp2 gMul (vOp2 gIx (vVar 0) (vK (.int 0))) (vK (.int 48271))) (vOp2 gMul (vOp2 gMul (vK (.int 7919)) (vOp2 gIx (vVar 0) (vK (.int 1)))) (vOp2 gIx (vVar 0) (vK (.int 1))))) (vK (.int 17))) (vK (.int 2147483647)))) (fK (.int 0)))
    (fSeq (fSetL 0 (fI (vOp2 gAdd (vOp2 gIx (vVar 0) (vK (.int 1))) (vK (.int 1)))) (fK (.int 1)))
    (fRet (fI (vOp2 gMod (vOp2 gFdiv (vOp2 gMod (vOp2 gMul (vOp2 gIx (vVar 0) (vK (.int 0))) (vK (.int 69621))) (vK (.int 2147483629))) (vK (.int 5))) (vVar 1)))))))
def m__law_take : Fn := semOf (true :: List.replicate 1 false) 3 b__law_take
def l__law_house_1 : Ev → RS :=
  (fSeq (fAsg (fOp2 gAdd (fVar 5) (fCallIO 0 2 m__law_take (fCons (fI (vOp2 gSub (vOp2 gAdd (vOp2 gSub (vK (.int 27)) (vVar 2)) (vVar 6)) (vVar 5))) fNil))) (gN 5))
    (fSeq (fAsg (fOp2 gAdd (fK (.int 1)) (fCallIO 0 2 m__law_take (fCons (fI (vOp2 gSub (vOp2 gShl (vK (.int 1)) (vVar 1)) (vK (.int 1)))) fNil))) (gN 7))
    (fSeq (fIf (fTv (vOp2 gEq (vVar 3) (vK (.int 1))))
    (fAsg (fOp2 gBor (fOp2 gShl (fK (.int 1)) (fCallIO 0 2 m__law_take (fCons (fVar 1) fNil))) (fOp2 gShl (fK (.int 1)) (fCallIO 0 2 m__law_take (fCons (fVar 1) fNil)))) (gN 7))
    fNext)
    (fSeq (fAppend 4 (fCons (fTup (fCons (fI (vOp2 gIx (vK (.str "abcdefghijklmnopqrstuvwxyz")) (vVar 5))) (fCons (fLc (fItN rng1 (fCons (fVar 1) fNil)) (gN 8) (fTv (vOp2 gEq (vOp2 gBand (vOp2 gShr (vVar 7) (vVar 8)) (vK (.int 1))) (vK (.int 1)))) (fVar 8) [8]) fNil))) fNil))
    (fAsg (fI (vOp2 gAdd (vVar 5) (vK (.int 1)))) (gN 5))))))
def b__law_house : Ev → RS :=
  (fSeq (fAsg (fOp2 gAdd (fK (.int 2)) (fCallIO 0 2 m__law_take (fCons (fK (.int 3)) fNil))) (gN 1))
    (fSeq (fAsg (fOp2 gAdd (fK (.int 1)) (fCallIO 0 2 m__law_take (fCons (fK (.int 6)) fNil))) (gN 2))
    (fSeq (fAsg (fCallIO 0 2 m__law_take (fCons (fK (.int 2)) fNil)) (gN 3))
    (fSeq (fAsg (fLst fNil) (gN 4))
    (fSeq (fAsg (fK (.int 0)) (gN 5))
    (fSeq (fFor (fItN rng1 (fCons (fVar 2) fNil)) (gN 6) l__law_house_1)
    (fRet (fTup (fConsL 1 (fConsL 4 fNil))))))))))
def m__law_house : Fn := semOf (true :: List.replicate 0 false) 9 b__law_house
def l__law_row_1 : Ev → RS :=
  (fAsg (fOp2 gAdd (fVar 4) (fOp2 gIxI (fOp2 gIxI (fI (vOp2 gIx (vVar 1) (vK (.int 1)))) (fCallIO 0 2 m__law_take (fCons (fI (vOpN gLen (vCons (vOp2 gIx (vVar 1) (vK (.int 1))) vNil))) fNil))) (fK (.int 0)))) (gN 4))
def b__law_row : Ev → RS :=
  (fSeq (fAsg (fCallIO 0 2 m__law_take (fCons (fI (vOp2 gAdd (vVar 2) (vK (.int 1)))) fNil)) (gN 3))
    (fSeq (fIf (fTb (fOp2V gEq (fCallIO 0 2 m__law_take (fCons (fK (.int 8)) fNil)) (vK (.int 1))))
    (fAsg (fCallIO 0 2 m__law_take (fCons (fK (.int 41)) fNil)) (gN 3))
    fNext)
    (fSeq (fAsg (fK (.str "")) (gN 4))
    (fSeq (fFor (fItN rng1 (fCons (fVar 3) fNil)) (gN 5) l__law_row_1)
    (fRet (fMv 4))))))
def m__law_row : Fn := semOf (true :: List.replicate 2 false) 6 b__law_row
def b__law_drawn : Ev → RS :=
  (fSeq (fAsg (fCall 1 m__law_bag (fCons (fVar 0) fNil)) (gN 2))
    (fSeq (fAsg (fCallIO 2 1 m__law_house fNil) (gN 3))
    (fRet (fTup (fConsL 2 (fConsL 3 (fCons (fCallIO 2 3 m__law_row (fCons (fVar 3) (fCons (fVar 1) fNil))) fNil)))))))
def m__law_drawn : Fn := semOf (List.replicate 2 false) 4 b__law_drawn
def b_is_whole : Ev → RS :=
  (fRet (fAndD (fI (vOpN gIsi (vCons (vVar 0) (vCons (vK (.gv (.ty "int"))) vNil)))) (fNotD (fI (vOpN gIsi (vCons (vVar 0) (vCons (vK (.gv (.ty "bool"))) vNil)))))))
def m_is_whole : Fn := semOf (List.replicate 1 false) 1 b_is_whole
def l_is_rising_1 : Ev → RS :=
  (fSeq (fIf (fOr (fNot (fTb (fCall 1 m_is_whole (fCons (fVar 3) fNil)))) (fNot (fTb (fChain gLt gLt (fVar 2) (fVar 3) (fVar 1)))))
    (fRet (fK (.bl false)))
    fNext)
    (fAsg (fVar 3) (gN 2)))
def b_is_rising : Ev → RS :=
  (fSeq (fIf (fNot (fTv (vOpN gIsi (vCons (vVar 0) (vCons (vK (.gv (.ty "list"))) vNil)))))
    (fRet (fK (.bl false)))
    fNext)
    (fSeq (fAsg (fI (vOp1 gNeg (vK (.int 1)))) (gN 2))
    (fSeq (fFor (fIt itemsL (fVar 0)) (gN 3) l_is_rising_1)
    (fRet (fK (.bl true))))))
def m_is_rising : Fn := semOf (List.replicate 2 false) 4 b_is_rising
def b_is_sign : Ev → RS :=
  (fRet (fAndD (fI (vOpN gIsi (vCons (vVar 0) (vCons (vK (.gv (.ty "str"))) vNil)))) (fAndD (fI (vOp2 gEq (vOpN gLen (vCons (vVar 0) vNil)) (vK (.int 1)))) (fI (vOp2 gIn (vVar 0) (vK (.str "abcdefghijklmnopqrstuvwxyz")))))))
def m_is_sign : Fn := semOf (List.replicate 1 false) 1 b_is_sign
def b_is_entry : Ev → RS :=
  (fSeq (fIf (fOr (fNot (fTv (vOpN gIsi (vCons (vVar 0) (vCons (vK (.gv (.ty "tuple"))) vNil))))) (fOr (fTv (vOp2 gNe (vOpN gLen (vCons (vVar 0) vNil)) (vK (.int 2)))) (fNot (fTb (fCall 1 m_is_sign (fCons (fI (vOp2 gIx (vVar 0) (vK (.int 0)))) fNil))))))
    (fRet (fK (.bl false)))
    fNext)
    (fRet (fAndD (fCall 2 m_is_rising (fCons (fI (vOp2 gIx (vVar 0) (vK (.int 1)))) (fCons (fVar 1) fNil))) (fI (vOp2 gGt (vOpN gLen (vCons (vOp2 gIx (vVar 0) (vK (.int 1))) vNil)) (vK (.int 0)))))))
def m_is_entry : Fn := semOf (List.replicate 2 false) 2 b_is_entry
def l_is_house_1 : Ev → RS :=
  (fSeq (fIf (fOr (fNot (fTb (fCall 2 m_is_entry (fCons (fVar 4) (fCons (fVar 1) fNil))))) (fNot (fTv (vOp2 gLt (vVar 3) (vOp2 gIx (vVar 4) (vK (.int 0)))))))
    (fRet (fK (.bl false)))
    fNext)
    (fAsg (fI (vOp2 gIx (vVar 4) (vK (.int 0)))) (gN 3)))
def b_is_house : Ev → RS :=
  (fSeq (fIf (fOr (fNot (fTv (vOpN gIsi (vCons (vVar 0) (vCons (vK (.gv (.ty "tuple"))) vNil))))) (fTv (vOp2 gNe (vOpN gLen (vCons (vVar 0) vNil)) (vK (.int 2)))))
    (fRet (fK (.bl false)))
    fNext)
    (fSeq (fAsg (fVar 0) (gT 2 (gsC (gN 1) (gsC (gN 2) gsN))))
    (fSeq (fIf (fOr (fNot (fTb (fCall 1 m_is_whole (fCons (fVar 1) fNil)))) (fNot (fTb (fChain gLe gLe (fK (.int 2)) (fVar 1) (fK (.int 4))))))
    (fRet (fK (.bl false)))
    fNext)
    (fSeq (fIf (fOr (fNot (fTv (vOpN gIsi (vCons (vVar 2) (vCons (vK (.gv (.ty "list"))) vNil))))) (fNot (fTb (fChain gLe gLe (fK (.int 1)) (fI (vOpN gLen (vCons (vVar 2) vNil))) (fK (.int 6))))))
    (fRet (fK (.bl false)))
    fNext)
    (fSeq (fAsg (fK (.str "")) (gN 3))
    (fSeq (fFor (fIt itemsL (fVar 2)) (gN 4) l_is_house_1)
    (fRet (fK (.bl true)))))))))
def m_is_house : Fn := semOf (List.replicate 1 false) 5 b_is_house
def b_look_house : Ev → RS :=
  (fIf (fNot (fTb (fCall 1 m_is_house (fCons (fVar 0) fNil))))
    fStk
    fNext)
def m_look_house : Fn := semOf (List.replicate 1 false) 1 b_look_house
def b__law_cell : Ev → RS :=
  (fSeq (fIf (fTv (vOp2 gLt (vVar 1) (vOpN gLen (vCons (vVar 0) vNil))))
    (fRet (fI (vOp2 gIx (vVar 0) (vVar 1))))
    fNext)
    (fRet (fK (.int 0))))
def m__law_cell : Fn := semOf (List.replicate 2 false) 2 b__law_cell
def Bag (n : Nat) (g : D) : Prop := ∃ a b : Int, g = .lst true [.int a, .int b] ∧ 0 ≤ b ∧ b ≤ n
theorem Bag.mono {n m : Nat} {g : D} (h : Bag n g) (l : n ≤ m) : Bag m g := by
  obtain ⟨a, b, e, h0, h1⟩ := h
  exact ⟨a, b, e, h0, by omega⟩
theorem take_spec {n : Nat} {g : D} {m : Int} (h : Bag n g) (hn : n < 2 ^ 60) (h0 : 0 < m) (h1 : m < 2 ^ 40) : ∃ (r : Nat) (g' : D), (r : Int) < m ∧ Bag (n + 1) g' ∧ m__law_take [g, .int m] = .rt (.int r) [some g', none] := by
  obtain ⟨a, b, rfl, hb0, hb1⟩ := h
  have nz : m ≠ 0 := by omega
  by_cases e : b = 0
  · subst e
    have cd : CDivX a m := ⟨nz, by omega⟩
    have hr0 : 0 ≤ Int.fmod a m := Int.fmod_nonneg_of_pos a h0
    have hr1 : Int.fmod a m < m := Int.fmod_lt_of_pos a h0
    refine ⟨(Int.fmod a m).toNat, .lst true [.int (Int.fdiv a m), .int 0], by omega, ⟨_, 0, rfl, by omega, by omega⟩, ?_⟩
    unfold m__law_take
    rw [semOf_ap]
    unfold b__law_take
    simp [nz, cd, setS, ixN, Int.toNat_of_nonneg hr0]
  · have c1 : CMul a 48271 := .inr ⟨by decide, by decide⟩
    have c2 : CMul 7919 b := .inl ⟨by decide, by decide⟩
    have c3 : CMul (7919 * b) b := .inr ⟨by omega, by omega⟩
    have c4 : ∀ x, CMul x 69621 := fun x => .inr ⟨by decide, by decide⟩
    have c5 : ∀ x, CDivX x 5 := fun x => ⟨by decide, by decide⟩
    let x := Int.fmod (a * 48271 + 7919 * b * b + 17) 2147483647
    let y := Int.fdiv (Int.fmod (x * 69621) 2147483629) 5
    have hr0 : 0 ≤ Int.fmod y m := Int.fmod_nonneg_of_pos y h0
    have hr1 : Int.fmod y m < m := Int.fmod_lt_of_pos y h0
    refine ⟨(Int.fmod y m).toNat, .lst true [.int x, .int (b + 1)], by omega, ⟨_, b + 1, rfl, by omega, by omega⟩, ?_⟩
    unfold m__law_take
    rw [semOf_ap]
    unfold b__law_take
    simp [nz, e, c1, c2, c3, c4, c5, setS, ixN, Int.toNat_of_nonneg hr0, x, y]
theorem bag_spec (c : Int) : ∃ g, Bag 1 g ∧ m__law_bag [.int c] = .rt g [none] := by
  have c1 : CPow 10 18 := ⟨by decide, by decide, by decide⟩
  by_cases h : (10 : Int) ^ 18 ≤ (if c < 0 then -c else c)
  · refine ⟨.lst true [.int (if c < 0 then -c else c), .int 0], ⟨_, 0, rfl, by omega, by omega⟩, ?_⟩
    unfold m__law_bag
    rw [semOf_ap]
    unfold b__law_bag
    have h' : (1000000000000000000 : Int) ≤ (if c < 0 then -c else c) := h
    simp [c1, sizeLine]
    rw [if_pos h']
    simp
  · refine ⟨.lst true [.int (Int.fmod c 2147483647), .int 1], ⟨_, 1, rfl, by omega, by omega⟩, ?_⟩
    unfold m__law_bag
    rw [semOf_ap]
    unfold b__law_bag
    have h' : ¬ (1000000000000000000 : Int) ≤ (if c < 0 then -c else c) := h
    simp [c1, sizeLine]
    rw [if_neg h']
    simp [sizeLine]
def sg (l : Nat) : Str := ⟨#[97 + l]⟩
def natD (x : Nat) : D := .int (x : Int)
def ownD (o : Bool) (ow : List Nat) : D := .lst o (ow.map natD)
def entD (o : Bool) (e : Nat × List Nat) : D := .tup [.str (sg e.1), ownD o e.2]
def houD (o : Bool) (h : Nat) (L : List (Nat × List Nat)) : D := .tup [.int h, .lst o (L.map (entD o))]
structure Own (h : Nat) (ow : List Nat) : Prop where
  ne : ow ≠ []
  rise : ow.Pairwise (· < ·)
  lt : ∀ x ∈ ow, x < h
structure House (h : Nat) (L : List (Nat × List Nat)) : Prop where
  h2 : 2 ≤ h
  h4 : h ≤ 4
  l1 : 1 ≤ L.length
  l6 : L.length ≤ 6
  rise : L.Pairwise fun e f => e.1 < f.1
  lt : ∀ e ∈ L, e.1 < 26
  own : ∀ e ∈ L, Own h e.2
@[simp] theorem frz_own {o ow} : frz (ownD o ow) = ownD false ow := by
  unfold ownD; rw [frz_lst, frzs_mapf (g := natD) fun _ _ => rfl]
@[simp] theorem frz_ent {o e} : frz (entD o e) = entD false e := by
  unfold entD; simp
@[simp] theorem frz_hou {o h L} : frz (houD o h L) = houD false h L := by
  unfold houD; simp [frzs_mapf (f := entD o) (g := entD false) fun _ _ => frz_ent]
@[simp] theorem imm_own {ow} : isImm (ownD false ow) = true := by
  unfold ownD; simp; exact imms_map fun _ _ => rfl
@[simp] theorem imm_ent {e} : isImm (entD false e) = true := by unfold entD; simp
@[simp] theorem imm_hou {h L} : isImm (houD false h L) = true := by
  unfold houD; simp; exact imms_map fun _ _ => imm_ent
@[simp] theorem imm_ownT {ow} : isImm (ownD true ow) = false := by unfold ownD; rfl
@[simp] theorem imm_houT {h L} : isImm (houD true h L) = false := by unfold houD; simp
def bitsL (h bits : Nat) : List Nat := (List.range h).filter fun j => bits.testBit j
theorem own_bits {h bits : Nat} (h0 : bits ≠ 0) (h1 : bits < 2 ^ h) : Own h (bitsL h bits) := by
  refine ⟨fun e => ?_, (List.pairwise_lt_range).filter _, fun x hx => by
    unfold bitsL at hx; rw [List.mem_filter, List.mem_range] at hx; exact hx.1⟩
  obtain ⟨i, hi⟩ := Nat.exists_testBit_of_ne_zero h0
  have hih : i < h := by
    refine Nat.lt_of_not_le fun hle => ?_
    have : bits < 2 ^ i := Nat.lt_of_lt_of_le h1 (Nat.pow_le_pow_right (by omega) hle)
    rw [Nat.testBit_lt_two_pow this] at hi
    cases hi
  have : i ∈ bitsL h bits := by unfold bitsL; rw [List.mem_filter, List.mem_range]; exact ⟨hih, hi⟩
  rw [e] at this
  exact absurd this (by simp)
theorem abc_eq : (Str.ofString "abcdefghijklmnopqrstuvwxyz").cps.toList = (List.range 26).map (97 + ·) := by decide +kernel
theorem abc_len : (Str.ofString "abcdefghijklmnopqrstuvwxyz").length ≤ sizeLine := by decide +kernel
theorem abc_ix {i : Nat} (h : i < 26) : gIx (.str (Str.ofString "abcdefghijklmnopqrstuvwxyz")) (.int (i : Int)) = some (.str (sg i)) := by
  show (if (Str.ofString "abcdefghijklmnopqrstuvwxyz").length ≤ sizeLine then (atI (Str.ofString "abcdefghijklmnopqrstuvwxyz").cps.toList (i : Int)).map fun c => D.str ⟨#[c]⟩ else none) = _
  rw [if_pos abc_len, at_nat, abc_eq, List.getElem?_map, List.getElem?_range h]
  rfl
theorem house_lc {g v2 v3 v4 v5 v6 : Option D} {h bits : Nat} (hh : h ≤ 4) :
    fLc (fItN rng1 (fCons (fVar 1) fNil)) (gN 8) (fTv (vOp2 gEq (vOp2 gBand (vOp2 gShr (vVar 7) (vVar 8)) (vK (.int 1))) (vK (.int 1)))) (fVar 8) [8] [g, some (.int (h : Int)), v2, v3, v4, v5, v6, some (.int (bits : Int)), none]
      = .ok (ownD true (bitsL h bits)) [g, some (.int (h : Int)), v2, v3, v4, v5, v6, some (.int (bits : Int)), none] := by
  unfold ownD bitsL
  refine lc_map (g := fun i => .int ((i : Nat) : Int)) (p := fun j => bits.testBit j) ?_ ?_ ?_ ?_
  · simp [rng1_n (n := h) (by omega)]
  · simp
  · rw [List.length_range]; unfold sizeLine; omega
  · intro j hj
    let ρ : Ev := [g, some (.int (h : Int)), v2, v3, v4, v5, v6, some (.int (bits : Int)), some (.int (j : Int))]
    refine ⟨ρ, rfl, ρ, ?_, fun _ => ⟨ρ, rfl, rfl⟩, fun _ => rfl⟩
    have e1 : (bits : Int) / 2 ^ j = ((bits >>> j : Nat) : Int) := by rw [Nat.shiftRight_eq_div_pow]; norm_cast
    have e2 : Builtin.bitAnd ((bits >>> j : Nat) : Int) 1 = (((bits >>> j) &&& 1 : Nat) : Int) := band_nn _ 1
    simp [ρ, e1, e2, -Nat.and_one_is_mod]
    rw [Bool.eq_iff_iff]
    simp only [decide_eq_true_eq]
    exact test_1 bits j
theorem bor_pow (a b : Nat) : Builtin.bitOr ((2 : Int) ^ a) (2 ^ b) = ((2 ^ a ||| 2 ^ b : Nat) : Int) := by
  have := bor_nn (2 ^ a) (2 ^ b)
  rw [← this]; congr 1 <;> norm_cast
theorem cpow1 {j : Nat} (h : j < 100) : CPow 1 (j : Int) := cpow_small 1 j (by omega) (by decide)
theorem pow_h {h : Nat} (h2 : 2 ≤ h) (h4 : h ≤ 4) : (4 : Int) ≤ 2 ^ h ∧ (2 : Int) ^ h ≤ 16 := by
  have : h = 2 ∨ h = 3 ∨ h = 4 := by omega
  rcases this with rfl | rfl | rfl <;> decide
/-- the state of _law_house's loop -/
structure HLoop (n0 h many few k : Nat) (ρ : Ev) : Prop where
  ex : ∃ (g : D) (at_ : Nat) (L : List (Nat × List Nat)) (v6 v7 : Option D), ρ = [some g, some (.int (h : Int)), some (.int (many : Int)), some (.int (few : Int)), some (.lst true (L.map (entD true))), some (.int (at_ : Int)), v6, v7, none] ∧
    Bag (n0 + 4 * k) g ∧ L.length = k ∧ at_ + many ≤ 26 + k ∧ (L.Pairwise fun e f => e.1 < f.1) ∧ ∀ e ∈ L, e.1 < at_ ∧ Own h e.2
def house_tail : Ev → RS := (fSeq (fAppend 4 (fCons (fTup (fCons (fI (vOp2 gIx (vK (.str "abcdefghijklmnopqrstuvwxyz")) (vVar 5))) (fCons (fLc (fItN rng1 (fCons (fVar 1) fNil)) (gN 8) (fTv (vOp2 gEq (vOp2 gBand (vOp2 gShr (vVar 7) (vVar 8)) (vK (.int 1))) (vK (.int 1)))) (fVar 8) [8]) fNil))) fNil))
    (fAsg (fI (vOp2 gAdd (vVar 5) (vK (.int 1)))) (gN 5)))
theorem house_body : l__law_house_1 = fSeq (fAsg (fOp2 gAdd (fVar 5) (fCallIO 0 2 m__law_take (fCons (fI (vOp2 gSub (vOp2 gAdd (vOp2 gSub (vK (.int 27)) (vVar 2)) (vVar 6)) (vVar 5))) fNil))) (gN 5))
    (fSeq (fAsg (fOp2 gAdd (fK (.int 1)) (fCallIO 0 2 m__law_take (fCons (fI (vOp2 gSub (vOp2 gShl (vK (.int 1)) (vVar 1)) (vK (.int 1)))) fNil))) (gN 7))
    (fSeq (fIf (fTv (vOp2 gEq (vVar 3) (vK (.int 1))))
    (fAsg (fOp2 gBor (fOp2 gShl (fK (.int 1)) (fCallIO 0 2 m__law_take (fCons (fVar 1) fNil))) (fOp2 gShl (fK (.int 1)) (fCallIO 0 2 m__law_take (fCons (fVar 1) fNil)))) (gN 7))
    fNext) house_tail)) := rfl
theorem house_turn {n0 h many few k : Nat} {ρ : Ev} (h2 : 2 ≤ h) (h4 : h ≤ 4) (hm : many ≤ 6) (hn0 : n0 < 2 ^ 59) (hk : k < many) (I : HLoop n0 h many few k ρ) : ∃ ρ', stepS (gN 6) l__law_house_1 (.int (k : Int)) ρ = .nx ρ' ∧ HLoop n0 h many few (k + 1) ρ' := by
  obtain ⟨g, at_, L, v6, v7, rfl, hb, hl, ha, hp, ho⟩ := I.ex
  obtain ⟨r1, g1, hr1, hb1, t1⟩ := take_spec (m := 27 - (many : Int) + (k : Int) - (at_ : Int)) hb (by omega) (by omega) (by omega)
  obtain ⟨p1, p2⟩ := pow_h h2 h4
  obtain ⟨r2, g2, hr2, hb2, t2⟩ := take_spec (m := (2 : Int) ^ h - 1) hb1 (by omega) (by omega) (by omega)
  have hat : at_ + r1 < 26 := by omega
  have cp := cpow1 (j := h) (by omega)
  obtain ⟨A, hA⟩ : ∃ A, A = at_ + r1 := ⟨_, rfl⟩
  have hsum : (at_ : Int) + (r1 : Int) = (A : Int) := by omega
  rw [← hA] at hat
  -- the part behind the bits
  have tail : ∀ (g3 : D) (bits : Nat), Bag (n0 + 4 * (k + 1)) g3 → bits ≠ 0 → bits < 2 ^ h →
      ∃ ρ', house_tail [some g3, some (.int (h : Int)), some (.int (many : Int)), some (.int (few : Int)), some (.lst true (L.map (entD true))), some (.int ((A : Nat) : Int)), some (.int (k : Int)), some (.int (bits : Int)), none] = .nx ρ' ∧ HLoop n0 h many few (k + 1) ρ' := by
    intro g3 bits hb3 b0 b1
    refine ⟨[some g3, some (.int (h : Int)), some (.int (many : Int)), some (.int (few : Int)), some (.lst true ((L ++ [(A, bitsL h bits)]).map (entD true))), some (.int ((A + 1 : Nat) : Int)), some (.int (k : Int)), some (.int (bits : Int)), none], ?_, ⟨g3, A + 1, L ++ [(A, bitsL h bits)], _, _, rfl, hb3, by simp [hl], by omega, ?_, ?_⟩⟩
    · unfold house_tail
      have hs : L.length < sizeLine := by unfold sizeLine; omega
      have hs2 : 2 ≤ sizeLine := by decide
      have i5 := abc_ix hat
      simp only [ap_seq, ap_append, ap_cons, ap_tup, ap_I, ap_v2, ap_vk, ap_vvar, List.getElem?_cons_succ, List.getElem?_cons_zero, varV_s, isLs_s, Option.bind_some, i5, immR_s, imm_str, if_true, bind_ok, house_lc h4, ap_nil, rsof_ok, one1_s, appS_s, List.length_map, hs, hs2, List.length_cons, List.length_nil, seq_nx, ap_asg, add_ii, imm_int, tgR_s, ap_gN, List.set_cons_succ, List.set_cons_zero, List.map_append, List.map_cons, List.map_nil]
      rfl
    · rw [List.pairwise_append]
      refine ⟨hp, by simp, fun e he f hf => ?_⟩
      rw [List.mem_singleton] at hf; subst hf
      exact Nat.lt_of_lt_of_le (ho e he).1 (by omega)
    · intro e he
      rcases List.mem_append.mp he with he | he
      · exact ⟨by have := (ho e he).1; omega, (ho e he).2⟩
      · rw [List.mem_singleton] at he; subst he
        exact ⟨by show A < _; omega, own_bits b0 b1⟩
  obtain ⟨B, hB⟩ : ∃ B, B = 1 + r2 := ⟨_, rfl⟩
  have e2 : (1 : Int) + (r2 : Int) = (B : Int) := by omega
  by_cases hf : few = 1
  · subst hf
    obtain ⟨r3, g3, hr3, hb3, t3⟩ := take_spec (m := (h : Int)) hb2 (by omega) (by omega) (by omega)
    obtain ⟨r4, g4, hr4, hb4, t4⟩ := take_spec (m := (h : Int)) hb3 (by omega) (by omega) (by omega)
    obtain ⟨C, hC⟩ : ∃ C, C = 2 ^ r3 ||| 2 ^ r4 := ⟨_, rfl⟩
    have hbor := bor_pow r3 r4
    rw [← hC] at hbor
    have hbits : 2 ^ r3 ||| 2 ^ r4 < 2 ^ h := Nat.or_lt_two_pow (Nat.pow_lt_pow_right (by omega) (by omega)) (Nat.pow_lt_pow_right (by omega) (by omega))
    have hnz : 2 ^ r3 ||| 2 ^ r4 ≠ 0 := by
      intro e
      have h1 : (2 ^ r3 ||| 2 ^ r4).testBit r3 = true := by rw [Nat.testBit_or, Nat.testBit_two_pow_self]; rfl
      rw [e] at h1; simp at h1
    obtain ⟨ρ', e, I'⟩ := tail g4 C (hb4.mono (by omega)) (hC ▸ hnz) (hC ▸ hbits)
    refine ⟨ρ', ?_, I'⟩
    rw [ap_step, ← e]
    rw [house_body]
    simp [-ap_append, -ap_lst, t1, t2, t3, t4, cp, cpow1 (j := r3) (by omega), cpow1 (j := r4) (by omega), hsum, e2, hbor]
  · have hbits : B < 2 ^ h := by
      have : ((2 : Nat) ^ h : Int) = 2 ^ h := by norm_cast
      have : ((2 ^ h : Nat) : Int) = 2 ^ h := by norm_cast
      omega
    obtain ⟨ρ', e, I'⟩ := tail g2 B (hb2.mono (by omega)) (by omega) hbits
    refine ⟨ρ', ?_, I'⟩
    have hf' : ¬ (few : Int) = 1 := by omega
    rw [ap_step, ← e]
    rw [house_body]
    simp [-ap_append, -ap_lst, t1, t2, cp, hsum, e2, hf']
section
variable {o : Bool} {h : Nat} {L : List (Nat × List Nat)} {e : Nat × List Nat} {ow : List Nat}
@[simp] theorem hou_ix0 : gIx (houD o h L) (.int 0) = some (.int (h : Int)) := by unfold houD; simp
@[simp] theorem hou_ix1 : gIx (houD o h L) (.int 1) = some (.lst o (L.map (entD o))) := by unfold houD; simp
@[simp] theorem ent_ix0 : gIx (entD o e) (.int 0) = some (.str (sg e.1)) := by unfold entD; simp
@[simp] theorem ent_ix1 : gIx (entD o e) (.int 1) = some (ownD o e.2) := by unfold entD; simp
@[simp] theorem frzs_ents : frzs (L.map (entD o)) = L.map (entD false) := frzs_mapf fun _ _ => frz_ent
@[simp] theorem imms_ents : isImms (L.map (entD false)) = true := imms_map fun _ _ => imm_ent
@[simp] theorem frzs_nats : frzs (ow.map natD) = ow.map natD := frzs_mapf fun _ _ => rfl
@[simp] theorem imms_nats : isImms (ow.map natD) = true := imms_map fun _ _ => rfl
end
@[simp] theorem fLst_nil {ρ : Ev} : fLst fNil ρ = .ok (.lst true []) ρ := rfl
theorem house_spec {n : Nat} {g : D} (hb : Bag n g) (hn : n < 2 ^ 58) : ∃ (g' : D) (h : Nat) (L : List (Nat × List Nat)), Bag (n + 30) g' ∧ House h L ∧ m__law_house [g] = .rt (houD true h L) [some g'] := by
  obtain ⟨r1, g1, hr1, hb1, t1⟩ := take_spec (m := 3) hb (by omega) (by omega) (by omega)
  obtain ⟨r2, g2, hr2, hb2, t2⟩ := take_spec (m := 6) hb1 (by omega) (by omega) (by omega)
  obtain ⟨r3, g3, hr3, hb3, t3⟩ := take_spec (m := 2) hb2 (by omega) (by omega) (by omega)
  obtain ⟨h, hh⟩ : ∃ h, h = 2 + r1 := ⟨_, rfl⟩
  obtain ⟨many, hm⟩ : ∃ m, m = 1 + r2 := ⟨_, rfl⟩
  have e1 : (2 : Int) + (r1 : Int) = (h : Int) := by omega
  have e2 : (1 : Int) + (r2 : Int) = (many : Int) := by omega
  obtain ⟨ρ', lp, I⟩ := loopR (step := stepS (gN 6) l__law_house_1) (n := many) (ρ := [some g3, some (.int (h : Int)), some (.int (many : Int)), some (.int (r3 : Int)), some (.lst true []), some (.int 0), none, none, none])
    (HLoop (n + 3) h many r3) ⟨g3, 0, [], _, _, rfl, hb3, rfl, by omega, .nil, fun e he => absurd he (by simp)⟩
    fun j ρ hj I => house_turn (by omega) (by omega) (by omega) (by omega) hj I
  obtain ⟨g', at_, L, v6, v7, rfl, hb', hl, ha, hp, ho⟩ := I.ex
  refine ⟨g', h, L, hb'.mono (by omega), ⟨by omega, by omega, by omega, by omega, hp, fun e he => by have := (ho e he).1; omega, fun e he => (ho e he).2⟩, ?_⟩
  unfold m__law_house
  rw [semOf_ap]
  unfold b__law_house
  have hs2 : 2 ≤ sizeLine := by decide
  simp [t1, t2, t3, e1, e2, rng1_n (n := many) (by omega), lp, hs2]
  cases L with
  | nil => simp at hl; omega
  | cons e L => simp [houD, entD, ownD]
def rowS (R : List Nat) : Str := ⟨(R.map (97 + ·)).toArray⟩
theorem rowS_snoc (R : List Nat) (l : Nat) : rowS R ++ sg l = rowS (R ++ [l]) := by
  show Str.mk _ = Str.mk _
  simp [rowS, sg]
@[simp] theorem rowS_len (R : List Nat) : (rowS R).length = R.length := by
  show (rowS R).cps.size = _
  simp [rowS]
@[simp] theorem sg_len (l : Nat) : (sg l).length = 1 := rfl
def RowOk (L : List (Nat × List Nat)) (R : List Nat) : Prop := ∀ r ∈ R, ∃ e ∈ L, e.1 = r
theorem rowS_nil : Str.ofString "" = rowS [] := by decide +kernel
theorem row_spec {n h : Nat} {L : List (Nat × List Nat)} {g : D} {most : Nat} (hb : Bag n g) (hn : n < 2 ^ 58) (H : House h L) (hmost : most < 2 ^ 20) :
    ∃ (g' : D) (R : List Nat), Bag (n + 2 ^ 21) g' ∧ RowOk L R ∧ R.length ≤ max most 40 ∧ m__law_row [g, houD false h L, .int (most : Int)] = .rt (.str (rowS R)) [some g', none, none] := by
  obtain ⟨r1, g1, hr1, hb1, t1⟩ := take_spec (m := (most : Int) + 1) hb (by omega) (by omega) (by omega)
  obtain ⟨r2, g2, hr2, hb2, t2⟩ := take_spec (m := 8) hb1 (by omega) (by omega) (by omega)
  obtain ⟨r3, g3, hr3, hb3, t3⟩ := take_spec (m := 41) hb2 (by omega) (by omega) (by omega)
  have l1 := H.l1
  have l6 := H.l6
  have main : ∀ (g0 : D) (size : Nat), Bag (n + 3) g0 → size ≤ max most 40 → ∃ ρ', loopS (stepS (gN 5) l__law_row_1) ((List.range size).map fun i => .int ((i : Nat) : Int)) [some g0, some (houD false h L), some (.int (most : Int)), some (.int (size : Int)), some (.str (rowS [])), none] = .nx ρ' ∧
      ∃ (g' : D) (R : List Nat) (v5 : Option D), ρ' = [some g', some (houD false h L), some (.int (most : Int)), some (.int (size : Int)), some (.str (rowS R)), v5] ∧ Bag (n + 3 + size) g' ∧ R.length = size ∧ RowOk L R := by
    intro g0 size hb0 hs
    refine loopR (fun k ρ => ∃ (g' : D) (R : List Nat) (v5 : Option D), ρ = [some g', some (houD false h L), some (.int (most : Int)), some (.int (size : Int)), some (.str (rowS R)), v5] ∧ Bag (n + 3 + k) g' ∧ R.length = k ∧ RowOk L R)
      ⟨g0, [], none, rfl, hb0, rfl, fun r hr => absurd hr (by simp)⟩ ?_
    rintro j ρ hj ⟨g', R, v5, rfl, hb', hl, hR⟩
    obtain ⟨r, g'', hr, hb'', t⟩ := take_spec (m := (L.length : Int)) hb' (by omega) (by omega) (by omega)
    have hrl : r < L.length := by omega
    have hsz : (rowS R).length + (sg (L[r]'hrl).1).length ≤ sizeLine := by rw [rowS_len, sg_len]; unfold sizeLine; omega
    refine ⟨[some g'', some (houD false h L), some (.int (most : Int)), some (.int (size : Int)), some (.str (rowS (R ++ [(L[r]'hrl).1]))), some (.int (j : Int))], ?_, g'', R ++ [(L[r]'hrl).1], _, rfl, hb''.mono (by omega), by simp [hl], ?_⟩
    · have i1 : gIxI (.lst false (L.map (entD false))) (.int (r : Int)) = some (entD false (L[r]'hrl)) := by
        refine ixI_of ?_ imm_ent
        rw [ix_l, at_nat, List.getElem?_map, List.getElem?_eq_getElem hrl]; rfl
      have i2 : gIxI (entD false (L[r]'hrl)) (.int 0) = some (.str (sg (L[r]'hrl).1)) := ixI_of ent_ix0 rfl
      rw [ap_step]
      unfold l__law_row_1
      simp [t, i1, i2, add_ss, -rowS_len, -sg_len]
      rw [if_pos hsz]
      simp [rowS_snoc]
    · intro x hx
      rcases List.mem_append.mp hx with hx | hx
      · exact hR x hx
      · rw [List.mem_singleton] at hx; subst hx
        exact ⟨_, List.getElem_mem hrl, rfl⟩
  by_cases e : r2 = 1
  · obtain ⟨ρ', lp, g', R, v5, rfl, hb', hl, hR⟩ := main g3 r3 hb3 (by omega)
    refine ⟨g', R, hb'.mono (by omega), hR, by omega, ?_⟩
    have e' : (r2 : Int) = 1 := by omega
    unfold m__law_row
    rw [semOf_ap]
    unfold b__law_row
    simp [t1, t2, t3, e', rng1_n (n := r3) (by omega), lp, rowS_nil]
  · obtain ⟨ρ', lp, g', R, v5, rfl, hb', hl, hR⟩ := main g2 r1 (hb2.mono (by omega)) (by omega)
    refine ⟨g', R, hb'.mono (by omega), hR, by omega, ?_⟩
    have e' : ¬ (r2 : Int) = 1 := by omega
    unfold m__law_row
    rw [semOf_ap]
    unfold b__law_row
    simp [t1, t2, e', rng1_n (n := r1) (by omega), lp, rowS_nil]
theorem drawn_spec (c : Int) {most : Nat} (hmost : most < 2 ^ 20) :
    ∃ (g' : D) (h : Nat) (L : List (Nat × List Nat)) (R : List Nat), Bag (2 ^ 22) g' ∧ House h L ∧ RowOk L R ∧ R.length ≤ max most 40 ∧ m__law_drawn [.int c, .int (most : Int)] = .rt (.tup [g', houD false h L, .str (rowS R)]) [none, none] := by
  obtain ⟨g0, hb0, t0⟩ := bag_spec c
  obtain ⟨g1, h, L, hb1, H, t1⟩ := house_spec hb0 (by omega)
  obtain ⟨g2, R, hb2, hR, hl, t2⟩ := row_spec hb1 (by omega) H hmost
  refine ⟨g2, h, L, R, hb2.mono (by omega), H, hR, hl, ?_⟩
  have i0 : isImm g0 = false := by obtain ⟨a, b, rfl, _⟩ := hb0; rfl
  have i2 : isImm g2 = false := by obtain ⟨a, b, rfl, _⟩ := hb2; rfl
  have hs3 : 3 ≤ sizeLine := by decide
  unfold m__law_drawn
  rw [semOf_ap]
  unfold b__law_drawn
  simp [t0, t1, t2, i2, hs3]
theorem whole_spec (i : Int) : m_is_whole [.int i] = .rt (.bl true) [none] := by
  unfold m_is_whole; rw [semOf_ap]; unfold b_is_whole; simp
theorem rising_spec {h : Nat} {ow : List Nat} (hr : ow.Pairwise (· < ·)) (hl : ∀ x ∈ ow, x < h) : m_is_rising [ownD false ow, .int (h : Int)] = .rt (.bl true) [none, none] := by
  obtain ⟨ρ', lp, I⟩ := loopL (step := stepS (gN 3) l_is_rising_1) (f := natD) (fun xs ρ => ∃ (a : Int) (v3 : Option D), ρ = [some (ownD false ow), some (.int (h : Int)), some (.int a), v3] ∧ xs.Pairwise (· < ·) ∧ ∀ x ∈ xs, a < (x : Int) ∧ x < h)
    ow [some (ownD false ow), some (.int (h : Int)), some (.int (-1)), none] ⟨-1, none, rfl, hr, fun x hx => ⟨by omega, hl x hx⟩⟩ (by
      rintro x xs ρ ⟨a, v3, rfl, hp, hx⟩
      obtain ⟨h1, h2⟩ := hx x List.mem_cons_self
      rw [List.pairwise_cons] at hp
      refine ⟨[some (ownD false ow), some (.int (h : Int)), some (.int (x : Int)), some (.int (x : Int))], ?_, x, _, rfl, hp.2, fun y hy => ⟨by have := hp.1 y hy; omega, (hx y (List.mem_cons_of_mem _ hy)).2⟩⟩
      rw [ap_step]
      unfold l_is_rising_1 natD
      have h2' : (x : Int) < (h : Int) := by omega
      simp [whole_spec, h1, h2])
  obtain ⟨a, v3, rfl, _, _⟩ := I
  unfold m_is_rising; rw [semOf_ap]; unfold b_is_rising
  unfold ownD at lp ⊢
  simp [lp]
theorem abc_in {l : Nat} (h : l < 26) : gIn (.str (sg l)) (.str (Str.ofString "abcdefghijklmnopqrstuvwxyz")) = some (.bl true) := by
  show (some (decide ((97 + l) ∈ (Str.ofString "abcdefghijklmnopqrstuvwxyz").cps.toList))).map D.bl = _
  rw [abc_eq, decide_eq_true]
  · rfl
  · rw [List.mem_map]; exact ⟨l, List.mem_range.mpr h, rfl⟩
theorem sign_spec {l : Nat} (h : l < 26) : m_is_sign [.str (sg l)] = .rt (.bl true) [none] := by
  have hs : 1 ≤ sizeLine := by decide
  unfold m_is_sign; rw [semOf_ap]; unfold b_is_sign; simp [abc_in h, hs]
theorem entry_spec {h : Nat} {e : Nat × List Nat} (hl : e.1 < 26) (ho : Own h e.2) : m_is_entry [entD false e, .int (h : Int)] = .rt (.bl true) [none, none] := by
  have hr := rising_spec ho.rise ho.lt
  have hlen : (0 : Int) < (e.2.length : Int) := by
    have := List.length_pos_iff.mpr ho.ne; omega
  have i0 := imm_own (ow := e.2)
  unfold ownD at hr i0
  unfold m_is_entry; rw [semOf_ap]; unfold b_is_entry entD ownD
  have hg : gGt (.int (e.2.length : Int)) (.int 0) = some (.bl true) := by rw [gt_ii, decide_eq_true hlen]
  simp [sign_spec hl, hr, hlen, List.length_pos_iff, ho.ne]
theorem sg_lt {a b : Nat} (h : a < b) : gLt (.str (sg a)) (.str (sg b)) = some (.bl true) := by
  rw [lt_ss, decide_eq_true]
  show [97 + a] < [97 + b]
  exact List.cons_lt_cons_iff.mpr (.inl (by omega))
theorem nil_lt {a : Nat} : gLt (.str (Str.ofString "")) (.str (sg a)) = some (.bl true) := by
  rw [lt_ss, decide_eq_true]
  rw [show (Str.ofString "").cps.toList = [] from by decide +kernel]
  exact List.Lex.nil
theorem ishouse_spec {h : Nat} {L : List (Nat × List Nat)} (H : House h L) : m_is_house [houD false h L] = .rt (.bl true) [none] := by
  obtain ⟨ρ', lp, I⟩ := loopL (step := stepS (gN 4) l_is_house_1) (f := entD false) (fun xs ρ => ∃ (a : Str) (v4 : Option D), ρ = [some (houD false h L), some (.int (h : Int)), some (.lst false (L.map (entD false))), some (.str a), v4] ∧ (xs.Pairwise fun e f => e.1 < f.1) ∧ ∀ e ∈ xs, gLt (.str a) (.str (sg e.1)) = some (.bl true) ∧ e.1 < 26 ∧ Own h e.2)
    L [some (houD false h L), some (.int (h : Int)), some (.lst false (L.map (entD false))), some (.str (Str.ofString "")), none] ⟨_, none, rfl, H.rise, fun e he => ⟨nil_lt, H.lt e he, H.own e he⟩⟩ (by
      rintro e xs ρ ⟨a, v4, rfl, hp, hx⟩
      obtain ⟨h1, h2, h3⟩ := hx e List.mem_cons_self
      rw [List.pairwise_cons] at hp
      refine ⟨[some (houD false h L), some (.int (h : Int)), some (.lst false (L.map (entD false))), some (.str (sg e.1)), some (entD false e)], ?_, _, _, rfl, hp.2, fun f hf => ⟨sg_lt (hp.1 f hf), (hx f (List.mem_cons_of_mem _ hf)).2⟩⟩
      rw [ap_step]
      unfold l_is_house_1
      simp [entry_spec h2 h3, h1, -lt_ss])
  obtain ⟨a, v3, rfl, _, _⟩ := I
  unfold m_is_house; rw [semOf_ap]; unfold b_is_house
  have h2 := H.h2; have h4 := H.h4; have l1 := H.l1; have l6 := H.l6
  have c1 : (2 : Int) ≤ (h : Int) := by omega
  have c2 : (h : Int) ≤ 4 := by omega
  have c3 : (1 : Int) ≤ (L.length : Int) := by omega
  have c4 : (L.length : Int) ≤ 6 := by omega
  unfold houD at lp ⊢
  simp [whole_spec, c1, c2, c3, c4, lp]
theorem look_spec {h : Nat} {L : List (Nat × List Nat)} (H : House h L) : m_look_house [houD false h L] = .rt .non [none] := by
  unfold m_look_house; rw [semOf_ap]; unfold b_look_house; simp [ishouse_spec H]
def sgD (l : Nat) : D := .str (sg l)
@[simp] theorem frz_sgD {l} : frz (sgD l) = sgD l := rfl
@[simp] theorem imm_sgD {l} : isImm (sgD l) = true := rfl
def cellM (ns : List Int) (k : Nat) : Int := (ns[k]?).getD 0
theorem cell_spec (ns : List Int) (k : Nat) : m__law_cell [.rol (ns.map D.int), .int (k : Int)] = .rt (.int (cellM ns k)) [none, none] := by
  unfold m__law_cell; rw [semOf_ap]; unfold b__law_cell cellM
  by_cases h : k < ns.length
  · simp [h, at_nat]
  · simp [h]
end M
namespace M
open PySem PySem.Spec PyProof.Rows L2 Hap
def ow (L : List (Nat × List Nat)) (l : Nat) : List Nat := ((L.find? fun e => e.1 == l).map (·.2)).getD []
theorem ow_mem {L : List (Nat × List Nat)} (h : L.Pairwise fun e f => e.1 < f.1) {e : Nat × List Nat} (he : e ∈ L) : ow L e.1 = e.2 := by
  unfold ow
  induction L with
  | nil => cases he
  | cons a L ih =>
    rw [List.pairwise_cons] at h
    rw [List.find?_cons]
    rcases List.mem_cons.mp he with rfl | he
    · simp
    · have : ¬ a.1 = e.1 := Nat.ne_of_lt (h.1 e he)
      rw [show (a.1 == e.1) = false by simpa using this]
      exact ih h.2 he
/-- they share a hand -/
def Hang (L : List (Nat × List Nat)) (a b : Nat) : Prop := ∃ x, x ∈ ow L a ∧ x ∈ ow L b
inductive Reach (H : Nat → Nat → Prop) : Nat → Nat → Prop
  | refl (i) : Reach H i i
  | tail {i p k} : Reach H i p → p < k → H p k → Reach H i k
theorem Reach.le {H : Nat → Nat → Prop} {i k : Nat} (h : Reach H i k) : i ≤ k := by
  induction h with
  | refl => exact Nat.le_refl _
  | tail _ l _ ih => omega
theorem Reach.trans {H : Nat → Nat → Prop} {i p k : Nat} (h : Reach H i p) (r : Reach H p k) : Reach H i k := by
  induction r with
  | refl => exact h
  | tail _ l h2 ih => exact .tail ih l h2
theorem Reach.tail_iff {H : Nat → Nat → Prop} {i k : Nat} : Reach H i k ↔ i = k ∨ ∃ p, p < k ∧ H p k ∧ Reach H i p := by
  constructor
  · intro h
    cases h with
    | refl => exact .inl rfl
    | tail r l h => exact .inr ⟨_, l, h, r⟩
  · rintro (rfl | ⟨p, l, h, r⟩)
    · exact .refl _
    · exact .tail r l h
/-- the row's letter at a place -/
def lt (R : List Nat) (i : Nat) : Nat := (R[i]?).getD 0
/-- the place i lies below the place j -/
def Below (L : List (Nat × List Nat)) (R : List Nat) (i j : Nat) : Prop := Reach (fun p k => Hang L (lt R p) (lt R k)) i j
@[simp] theorem frz_natD {x} : frz (natD x) = natD x := rfl
@[simp] theorem imm_natD {x} : isImm (natD x) = true := rfl
theorem natD_eq {x : Nat} : natD x = .int (x : Int) := rfl
theorem fold_bit (last : Nat → Nat) (i : Nat) : ∀ (ows : List Nat) (b : Nat), (ows.foldl (fun b x => b ||| last x) b).testBit i = (b.testBit i || ows.any fun x => (last x).testBit i)
  | [], b => by simp
  | x :: xs, b => by rw [List.foldl_cons, fold_bit last i xs, Nat.testBit_or, List.any_cons, Bool.or_assoc]
section
variable {h : Nat} {L : List (Nat × List Nat)} {R : List Nat}
/-- what stands behind k places -/
structure BI (L : List (Nat × List Nat)) (R : List Nat) (k : Nat) (Bs : List Nat) (last : Nat → Nat) : Prop where
  len : Bs.length = k
  bs : ∀ (j b : Nat), Bs[j]? = some b → ∀ i, b.testBit i = true ↔ Below L R i j
  la : ∀ x i, (last x).testBit i = true ↔ ∃ p, p < k ∧ x ∈ ow L (lt R p) ∧ Below L R i p
theorem BI.bits {k : Nat} {Bs : List Nat} {last : Nat → Nat} (I : BI L R k Bs last) (i : Nat) : ((ow L (lt R k)).foldl (fun b x => b ||| last x) (2 ^ k)).testBit i = true ↔ Below L R i k := by
  rw [fold_bit, Bool.or_eq_true, Nat.testBit_two_pow, List.any_eq_true]
  unfold Below
  rw [Reach.tail_iff]
  constructor
  · rintro (e | ⟨x, hx, hb⟩)
    · exact .inl (of_decide_eq_true e).symm
    · obtain ⟨p, hp, hxp, hr⟩ := (I.la x i).mp hb
      exact .inr ⟨p, hp, ⟨x, hxp, hx⟩, hr⟩
  · rintro (e | ⟨p, hp, ⟨x, hxp, hx⟩, hr⟩)
    · exact .inl (decide_eq_true e.symm)
    · exact .inr ⟨x, hx, (I.la x i).mpr ⟨p, hp, hxp, hr⟩⟩
theorem BI.next {k : Nat} {Bs : List Nat} {last : Nat → Nat} (I : BI L R k Bs last) {b : Nat} (hb : b = (ow L (lt R k)).foldl (fun b x => b ||| last x) (2 ^ k)) : BI L R (k + 1) (Bs ++ [b]) (fun x => if x ∈ ow L (lt R k) then b else last x) := by
  have hbit := I.bits
  rw [← hb] at hbit
  refine ⟨by simp [I.len], fun j c hj i => ?_, fun x i => ?_⟩
  · by_cases h1 : j < k
    · rw [List.getElem?_append_left (by rw [I.len]; exact h1)] at hj
      exact I.bs j c hj i
    · rw [List.getElem?_append_right (by rw [I.len]; omega), I.len] at hj
      have : j = k := by
        have := (List.getElem?_eq_some_iff.mp hj).1
        simp at this; omega
      subst this
      simp at hj; subst hj
      exact hbit i
  · by_cases hx : x ∈ ow L (lt R k)
    · rw [if_pos hx, hbit]
      constructor
      · intro hr; exact ⟨k, by omega, hx, hr⟩
      · rintro ⟨p, hp, hxp, hr⟩
        by_cases e : p = k
        · subst e; exact hr
        · exact .tail hr (by omega) ⟨x, hxp, hx⟩
    · rw [if_neg hx, I.la]
      constructor
      · rintro ⟨p, hp, hxp, hr⟩; exact ⟨p, by omega, hxp, hr⟩
      · rintro ⟨p, hp, hxp, hr⟩
        refine ⟨p, ?_, hxp, hr⟩
        have : p ≠ k := fun e => by subst e; exact hx hxp
        omega
theorem enumD_len : ∀ (k : Nat) (ds : List D), (enumD k ds).length = ds.length
  | _, [] => rfl
  | k, d :: ds => by rw [enumD, List.length_cons, enumD_len (k + 1) ds]; rfl
end
theorem rise_len : ∀ (l : List Nat) (lo h : Nat), l.Pairwise (· < ·) → (∀ x ∈ l, lo ≤ x ∧ x < h) → l.length ≤ h - lo
  | [], _, _, _, _ => by simp
  | x :: l, lo, h, hp, hx => by
    rw [List.pairwise_cons] at hp
    have h1 := hx x List.mem_cons_self
    have := rise_len l (x + 1) h hp.2 fun y hy => ⟨hp.1 y hy, (hx y (List.mem_cons_of_mem _ hy)).2⟩
    rw [List.length_cons]; omega
section
variable {h : Nat} {L : List (Nat × List Nat)} {R : List Nat}
theorem eqd_natD : EqD natD := eqd_nat
end
section
variable {h : Nat} {L : List (Nat × List Nat)} {o o' : Bool}
theorem toPy_own {ows : List Nat} : toPy (ownD o ows) = toPy (ownD o' ows) := by simp [ownD, toPy]
theorem sh_own {ows : List Nat} : Sh 1 (ownD o ows) := sh_lst fun d hd => by
  obtain ⟨x, _, rfl⟩ := List.mem_map.mp hd; exact sh_int
end
@[simp] theorem frzs_ints {ns : List Int} : frzs (ns.map D.int) = ns.map D.int := frzs_mapf fun _ _ => rfl
end M
namespace M
open PySem PySem.Spec PyProof.Rows L2 Hap
theorem ne_nil {α : Type} {f : α → D} {xs : List α} {o o' : Bool} (hx : ∀ x ∈ xs, Sh 60 (f x)) : gNe (.lst o (xs.map f)) (.lst o' []) = some (.bl (!decide (xs = []))) := by
  have h1 : Sh 61 (.lst o (xs.map f)) := sh_lst fun d hd => by obtain ⟨x, hx', rfl⟩ := List.mem_map.mp hd; exact hx x hx'
  have h2 : Sh 61 (.lst o' []) := sh_lst fun d hd => by cases hd
  have e : gEq (.lst o (xs.map f)) (.lst o' []) = some (.bl (decide (xs = []))) := by
    unfold gEq
    dsimp only
    rw [if_pos ⟨h1.shaped (by omega), h2.shaped (by omega)⟩]
    cases xs with
    | nil => simp [toPy, toPys, PyData.eqv, PyData.eqvAll]
    | cons x xs => simp [toPy, toPys, PyData.eqv, PyData.eqvAll]
  unfold gNe; rw [e]
end M
namespace M
open PySem PySem.Spec PyProof.Rows L2 Hap
def see (L : List (Nat × List Nat)) (x : Nat) (R : List Nat) : List Nat := R.filter fun r => decide (x ∈ ow L r)
def joinR (d : D) (k : R D) : R D := match d with
  | .str _ => k
  | _ => .stk
@[simp] theorem joinR_s {x : Str} {k : R D} : joinR (.str x) k = k := (rfl)
@[simp] theorem ap_join {f g : Ev → R D} {ρ : Ev} : fJoin f g ρ = (f ρ).bind fun d ρ1 => joinR d ((g ρ1).bind fun e ρ2 => R.of (gJoin d e) ρ2) := by
  unfold fJoin joinR; rfl
section
variable {h : Nat} {L : List (Nat × List Nat)} {R R' : List Nat}
theorem ow_of_mem (H : House h L) {r x : Nat} : x ∈ ow L r ↔ ∃ e ∈ L, e.1 = r ∧ x ∈ e.2 := by
  constructor
  · intro hx
    unfold ow at hx
    cases hf : L.find? fun e => e.1 == r with
    | none => rw [hf] at hx; simp at hx
    | some e =>
      rw [hf] at hx
      have := List.find?_some hf
      exact ⟨e, List.mem_of_find?_eq_some hf, by simpa using this, by simpa using hx⟩
  · rintro ⟨e, he, rfl, hx⟩
    rw [ow_mem H.rise he]; exact hx
def rowD (R : List Nat) : D := .str (rowS R)
@[simp] theorem frz_rowD {R} : frz (rowD R) = rowD R := rfl
@[simp] theorem imm_rowD {R} : isImm (rowD R) = true := rfl
theorem sh_row {n : Nat} (hR : ∀ r ∈ R, r < 26) : Sh n (rowD R) := sh_str fun c hc => by
  simp only [rowS, List.mem_map] at hc
  obtain ⟨r, hr, rfl⟩ := hc
  have := hR r hr
  omega
theorem RowOk.sub (hR : RowOk L R) (hs : ∀ r ∈ R', r ∈ R) : RowOk L R' := fun r hr => hR r (hs r hr)
theorem RowOk.see (hR : RowOk L R) {x : Nat} : RowOk L (see L x R) := hR.sub fun r hr => (List.mem_filter.mp hr).1
/-- all hands see the same -/
def Same (h : Nat) (L : List (Nat × List Nat)) (A B : List Nat) : Prop := ∀ x, x < h → see L x A = see L x B
instance : Decidable (Same h L R R') := inferInstanceAs (Decidable (∀ x, x < h → _))
end
theorem rowS_app (A B : List Nat) : rowS A ++ rowS B = rowS (A ++ B) := by
  show (⟨(rowS A).cps ++ (rowS B).cps⟩ : Str) = _
  simp [rowS]
theorem add_rows {A B : List Nat} (hl : A.length + B.length ≤ 100000) : gAdd (.str (rowS A)) (.str (rowS B)) = some (.str (rowS (A ++ B))) := by
  rw [add_ss, if_pos (by rw [rowS_len, rowS_len]; unfold sizeLine; omega), rowS_app]
end M
namespace M
open PySem PySem.Spec PyProof.Rows L2 Hap
section
variable {h : Nat} {L : List (Nat × List Nat)} {R S : List Nat}
theorem Hang.symm {a b : Nat} (h : Hang L a b) : Hang L b a := by
  obtain ⟨x, h1, h2⟩ := h; exact ⟨x, h2, h1⟩
/-- the letter at p hangs on none ahead -/
structure Fore (L : List (Nat × List Nat)) (R : List Nat) (p : Nat) : Prop where
  lt : p < R.length
  free : ∀ q, q < p → ¬ Hang L (M.lt R q) (M.lt R p)
/-- the place of the least letter that hangs on none ahead -/
structure Lp (L : List (Nat × List Nat)) (R : List Nat) (p : Nat) : Prop where
  fore : Fore L R p
  le : ∀ q, Fore L R q → M.lt R p ≤ M.lt R q
inductive Least (L : List (Nat × List Nat)) : List Nat → List Nat → Prop
  | nil : Least L [] []
  | step {R S p} : Lp L R p → Least L (R.eraseIdx p) S → Least L R (M.lt R p :: S)
theorem Least.len {R S : List Nat} (h : Least L R S) : S.length = R.length := by
  induction h with
  | nil => rfl
  | step hp _ ih =>
    have := hp.fore.lt
    rw [List.length_cons, ih, List.length_eraseIdx_of_lt this]; omega
theorem lt_mem {p : Nat} (hp : p < R.length) : M.lt R p ∈ R := by
  have : M.lt R p = R[p] := by simp [M.lt, hp]
  rw [this]; exact List.getElem_mem hp
theorem erase_mem {p : Nat} {r : Nat} (h : r ∈ R.eraseIdx p) : r ∈ R := (List.eraseIdx_sublist R p).subset h
theorem RowOk.erase (hR : RowOk L R) {p : Nat} : RowOk L (R.eraseIdx p) := hR.sub fun _ h => erase_mem h
theorem Least.ok (h : Least L R S) (hR : RowOk L R) : RowOk L S := by
  induction h with
  | nil => exact hR
  | step hp _ ih =>
    intro r hr
    rcases List.mem_cons.mp hr with rfl | hr
    · exact hR _ (lt_mem hp.fore.lt)
    · exact ih hR.erase r hr
theorem lt_cons_succ {a : Nat} {R : List Nat} {p : Nat} : M.lt (a :: R) (p + 1) = M.lt R p := by simp [M.lt]
theorem lt_cons_zero {a : Nat} {R : List Nat} : M.lt (a :: R) 0 = a := by simp [M.lt]
theorem Fore.tail {a : Nat} {p : Nat} (h : Fore L (a :: R) (p + 1)) : Fore L R p ∧ ¬ Hang L a (M.lt R p) := by
  refine ⟨⟨by have := h.lt; rw [List.length_cons] at this; omega, fun q hq => ?_⟩, ?_⟩
  · have := h.free (q + 1) (by omega)
    rwa [lt_cons_succ, lt_cons_succ] at this
  · have := h.free 0 (by omega)
    rwa [lt_cons_succ, lt_cons_zero] at this
/-- what hangs on none ahead may be brought ahead: all hands see the same -/
theorem see_fore {x : Nat} : ∀ {R : List Nat} {p : Nat}, Fore L R p → see L x (M.lt R p :: R.eraseIdx p) = see L x R
  | [], p, h => absurd h.lt (by simp)
  | a :: R, 0, h => by rw [lt_cons_zero]; rfl
  | a :: R, p + 1, h => by
    obtain ⟨h1, h2⟩ := h.tail
    have ih := see_fore (x := x) h1
    rw [lt_cons_succ, List.eraseIdx_cons_succ]
    have ih' : see L x (M.lt R p :: R.eraseIdx p) = see L x R := ih
    unfold see at ih' ⊢
    simp only [List.filter_cons] at ih' ⊢
    rw [← ih']
    by_cases c1 : x ∈ ow L (M.lt R p)
    · have c2 : ¬ x ∈ ow L a := fun c2 => h2 ⟨x, c2, c1⟩
      simp [c1, c2]
    · simp [c1]
theorem Least.see (hh : Least L R S) (x : Nat) : see L x S = M.see L x R := by
  induction hh with
  | nil => rfl
  | step hp _ ih =>
    rw [← see_fore hp.fore]
    unfold M.see at ih ⊢
    simp only [List.filter_cons]
    rw [ih]
theorem Least.same (hh : Least L R S) : Same h L S R := fun x _ => hh.see x
/-- a letter that hangs on none ahead, by what the hands see -/
theorem fore_iff {a : Nat} : ∀ {R : List Nat}, (∃ p, Fore L R p ∧ M.lt R p = a) ↔ a ∈ R ∧ (∀ x ∈ ow L a, (see L x R).head? = some a)
  | [] => by
    constructor
    · rintro ⟨p, h, _⟩; exact absurd h.lt (by simp)
    · rintro ⟨h, _⟩; cases h
  | b :: R => by
    have ih := fore_iff (a := a) (R := R)
    constructor
    · rintro ⟨p, h, rfl⟩
      refine ⟨lt_mem h.lt, fun x hx => ?_⟩
      rw [← see_fore (x := x) h]
      unfold M.see
      rw [List.filter_cons, if_pos (decide_eq_true hx)]; rfl
    · rintro ⟨h1, h2⟩
      by_cases e : a = b
      · subst e
        exact ⟨0, ⟨by simp, fun q hq => by omega⟩, lt_cons_zero⟩
      · have hab : ¬ Hang L b a := by
          rintro ⟨x, hx1, hx2⟩
          have := h2 x hx2
          unfold M.see at this
          rw [List.filter_cons, if_pos (decide_eq_true hx1)] at this
          exact e (by simpa using this.symm)
        have hm : a ∈ R := (List.mem_cons.mp h1).resolve_left e
        obtain ⟨p, hp, hpa⟩ := ih.mpr ⟨hm, fun x hx => by
          have := h2 x hx
          have c2 : ¬ x ∈ ow L b := fun c2 => hab ⟨x, c2, hx⟩
          unfold M.see at this ⊢
          rw [List.filter_cons, if_neg (by simpa using c2)] at this
          exact this⟩
        refine ⟨p + 1, ⟨by have := hp.lt; simp; omega, fun q hq => ?_⟩, by rw [lt_cons_succ]; exact hpa⟩
        rw [lt_cons_succ]
        cases q with
        | zero => rw [lt_cons_zero, hpa]; exact hab
        | succ q => rw [lt_cons_succ]; exact hp.free q (by omega)
theorem mem_see {a x : Nat} : a ∈ see L x R ↔ a ∈ R ∧ x ∈ ow L a := by
  unfold M.see; rw [List.mem_filter, decide_eq_true_eq]
/-- rows of which all hands see the same have the same letters -/
theorem Same.mem (H : House h L) {A B : List Nat} (hA : RowOk L A) (hs : Same h L A B) {a : Nat} (ha : a ∈ A) : a ∈ B := by
  obtain ⟨e, he, rfl⟩ := hA a ha
  obtain ⟨x, hx⟩ := List.exists_mem_of_ne_nil _ (H.own e he).ne
  have hx' : x ∈ ow L e.1 := by rw [ow_mem H.rise he]; exact hx
  have : e.1 ∈ M.see L x A := mem_see.mpr ⟨ha, hx'⟩
  rw [hs x ((H.own e he).lt x hx)] at this
  exact (mem_see.mp this).1
theorem Same.symm {A B : List Nat} (hs : Same h L A B) : Same h L B A := fun x hx => (hs x hx).symm
theorem Same.trans {A B C : List Nat} (hs : Same h L A B) (ht : Same h L B C) : Same h L A C := fun x hx => (hs x hx).trans (ht x hx)
theorem Same.refl {A : List Nat} : Same h L A A := fun _ _ => rfl
theorem ow_lt (H : House h L) {a x : Nat} (hx : x ∈ ow L a) : x < h := by
  obtain ⟨e, he, _, hx'⟩ := (ow_of_mem H).mp hx
  exact (H.own e he).lt x hx'
theorem Same.fore (H : House h L) {A B : List Nat} (hA : RowOk L A) (hs : Same h L A B) {a : Nat} (ha : ∃ p, Fore L A p ∧ M.lt A p = a) : ∃ p, Fore L B p ∧ M.lt B p = a := by
  obtain ⟨h1, h2⟩ := fore_iff.mp ha
  exact fore_iff.mpr ⟨hs.mem H hA h1, fun x hx => by rw [← hs x (ow_lt H hx)]; exact h2 x hx⟩
/-- the least row hangs on what the hands see alone -/
theorem Least.uniq (H : House h L) {A S : List Nat} (hA : Least L A S) : ∀ {B T : List Nat}, RowOk L A → RowOk L B → Least L B T → Same h L A B → S = T := by
  induction hA with
  | nil =>
    intro B T _ hB hT hs
    cases hT with
    | nil => rfl
    | step hp _ =>
      have := hs.symm.mem H hB (lt_mem hp.fore.lt)
      cases this
  | @step A S p hp hS ih =>
    intro B T hA hB hT hs
    cases hT with
    | nil =>
      have := hs.mem H hA (lt_mem hp.fore.lt)
      cases this
    | @step _ T q hq hT =>
      have e : M.lt A p = M.lt B q := by
        obtain ⟨q', h1, h2⟩ := hs.fore H hA ⟨p, hp.fore, rfl⟩
        obtain ⟨p', h3, h4⟩ := hs.symm.fore H hB ⟨q, hq.fore, rfl⟩
        have l1 := hq.le q' h1
        have l2 := hp.le p' h3
        omega
      rw [e]
      congr 1
      refine ih hA.erase hB.erase hT fun x hx => ?_
      have h1 := see_fore (x := x) hp.fore
      have h2 := see_fore (x := x) hq.fore
      rw [hs x hx, ← h2, e] at h1
      unfold M.see at h1 ⊢
      simp only [List.filter_cons] at h1
      split at h1
      · exact (List.cons.inj h1).2
      · exact h1
end
end M
namespace M
open PySem PySem.Spec PyProof.Rows L2 Hap
end M
namespace M
open PySem PySem.Spec PyProof.Rows L2 Hap
end M
namespace M
open PySem PySem.Spec PyProof.Rows L2 Hap
end M
namespace Hap
open PySem PySem.Spec PyProof.Rows L2
/-- what is asked of a kind of keys -/
structure SetKind {P : Program} {w : World} {κ : Type} [DecidableEq κ] (knd : HeapKind P w κ) : Prop where
  cls : ∀ {A : Around} {E : Value → Shared → Prop} {s : Shared} {k : κ} {b : Addr} {Q : Bool → Shared → Prop}, knd.is s.heap k b → Q false s → wpAny (model P w) A (ofAClassStatement 8 (.ref b)) Q E s
  val : ∀ {A : Around} {E : Value → Shared → Prop} {s : Shared} {k : κ} {b : Addr} (Q : Bool → Shared → Prop), knd.is s.heap k b → (∀ c, Q c s) → wpAny (model P w) A (hashByValue 8 (.ref b)) Q E s
  same : ∀ {h h' : Heap} {k : κ} {a b : Addr} {o : Obj} {es : Array (Int × Value)} {ep : Nat} {t : SetTable}, knd.is h k b → h.get? a = some o → o.data = .set es ep t → Heap.SameBut a h h' → knd.is h' k b
  keep : ∀ {h h' : Heap} {k : κ} {b : Addr}, knd.is h k b → (∀ c o, h.get? c = some o → h'.get? c = some o) → knd.is h' k b
section
variable {P : Program} {w : World} {κ : Type} [DecidableEq κ] {knd : HeapKind P w κ} (ok : SetKind knd) {A : Around} {E : Value → Shared → Prop} {s : Shared}
include ok
def rowsN (knd : HeapKind P w κ) (L : List (Addr × κ)) : List (Int × Value) := L.map fun p => (knd.hash p.2, Value.ref p.1)
structure SetNR (knd : HeapKind P w κ) (h : Heap) (a : Addr) (L : List (Addr × κ)) (es : Array (Int × Value)) (ep : Nat) (t : SetTable) : Prop where
  ob : ∃ o, h.get? a = some o ∧ o.ExactSet ∧ o.data = .set es ep t
  rows : es.toList = rowsN knd L
  tab : TabOk t (L.map fun p => knd.hash p.2)
  nd : (L.map (·.2)).Nodup
  tup : ∀ p ∈ L, knd.is h p.2 p.1
  led : w.params.followText "set-order" = true ∨ t.led = true
  room : L.length * 5 < t.mask * 3
  few : L.length < 64
variable {a : Addr} {L : List (Addr × κ)} {es : Array (Int × Value)} {ep : Nat} {t : SetTable}
omit ok in
theorem SetNR.size (R : SetNR knd s.heap a L es ep t) : es.size = L.length := by
  have h := congrArg List.length R.rows
  unfold rowsN at h
  rw [Array.length_toList, List.length_map] at h
  exact h
variable {a : Addr} {L : List (Addr × κ)} {es : Array (Int × Value)} {ep : Nat} {t : SetTable}
/-- what the set has got from the first i items -/
structure GotN (ks : List (Addr × κ)) (i : Nat) (L : List (Addr × κ)) : Prop where
  sub : ∀ p ∈ L, p ∈ ks.take i
  all : ∀ p ∈ ks.take i, p.2 ∈ L.map (·.2)
  len : L.length ≤ i
omit ok in
theorem take_nextN {α : Type} {l : List α} {i : Nat} {x : α} (h : l[i]? = some x) : l.take (i + 1) = l.take i ++ [x] := by
  rw [List.take_succ, h] <;> rfl
omit ok in
theorem GotN.same {ks L : List (Addr × κ)} {i : Nat} {x : Addr × κ} (g : GotN ks i L) (h : ks[i]? = some x) (m1 : x.2 ∈ L.map (·.2)) : GotN ks (i + 1) L := by
  refine ⟨fun p p1 => ?_, fun p p1 => ?_, Nat.le_succ_of_le g.len⟩
  · rw [take_nextN h]
    exact List.mem_append_left _ (g.sub p p1)
  · rw [take_nextN h] at p1
    rcases List.mem_append.mp p1 with z | z
    · exact g.all p z
    · rw [List.mem_singleton.mp z]; exact m1
end
end Hap
namespace Hap
open PySem PySem.Spec PyProof.Rows L2
end Hap
namespace Hap
open PySem PySem.Spec PyProof.Rows L2
open PySem.W (EachIs AllAlike Sortable dataLe dataLt)
end Hap
namespace Hap
open PySem PySem.Spec PyProof.Rows L2
open PySem.W (EachIs AllAlike Sortable dataLe dataLt)
end Hap
namespace Hap
open PySem PySem.Spec PyProof.Rows L2
open PySem.W (EachIs)
end Hap
namespace Hap
open PySem PySem.Spec PyProof.Rows L2
end Hap
namespace L2
open PySem PySem.Spec PyProof.Rows
def tDispT (tk tv : TE) : TE := fun σ H Q => ∀ p, H p = none → tPairs [(tk, tv)] σ (upd H p (.dT [])) fun ps H2 => H2 p = some (.dT []) ∧ ∃ (k : List Key) (b : Addr) (y : V), ps = [(.ref b, y)] ∧ H2 b = some (.tup (k.map kV)) ∧ Q (.ref p) (upd H2 p (.dT [(k, y)]))
theorem pe_dispT {X : Cx} {pos : Pos} {ek ev : Expr} {tk tv : TE} (hu : X.A.units < cLine) (h : PPs X pos [some ek] [ev] [(tk, tv)]) : PE X (.Dict [some ek] [ev] pos) (tDispT tk tv) := by
  refine ⟨fun pins s σ H Q I q => ?_⟩
  have hn := I.hok.fresh (Nat.le_refl s.heap.objs.size)
  have I1 := I.laid (a := s.heap.objs.size) (o := .dT []) (h' := s.heap.push { cls := .type "dict", data := .dict #[] }) (t' := s.toks) (fun _ _ q => Heap.get?_push_of_some _ q) (Nat.le_refl _) (dt_empty s.heap I.big)
  refine wpAny_Dict_any rfl rfl (by simp) (by simp) (thn (h.run pins _ σ _ _ I1 (q _ hn)) fun ws s2 ⟨ps, H2, I2, rel, e, k, b, y, ep, eb, q2⟩ => ?_)
  subst ep
  cases rel with
  | @cons p0 w0 r0 ws' hh ht =>
  cases ht
  obtain ⟨w1, w2⟩ := w0
  obtain ⟨r1, r2⟩ := hh
  cases (show w1 = Value.ref b from r1)
  obtain ⟨z, hd, xs, rel, dd⟩ := dt_of I2.hok e
  cases rel
  unfold storeAll
  rw [List.forIn_cons]
  refine wpAny_bind (wpAny_bind (wpAny_dictSet_heap (knd := tupleKind (mixKind X.prog X.w)) (hsz := by rw [sizeLine_eq]; simp) hu (key_of I2.hok eb) dd fun h' dd' hs => wpAny_pure ?_))
  dsimp only
  rw [List.forIn_nil]
  refine wpAny_pure ⟨.ref s.heap.objs.size, _, ?_, rfl, q2⟩
  obtain ⟨o', es, ep, hq, h2, h3, h4, _, h5⟩ := dd'
  refine d_write I2 (by rw [e]; exact True.intro) hs ⟨o', hq⟩ ⟨by rw [sizeLine_eq]; simp, hd, _, (KT.put (H := H2) (kvs := []) (xs := []) .nil k eb r2).keeps fun c ys ec => ?_, o', es, ep, hq, h2, h3, h4, h5⟩
  rw [upd_ne (ne_of ec e (fun z => nomatch z))]
  exact ec
end L2
namespace Hap
open PySem PySem.Spec PyProof.Rows L2
variable [TabC]
def fD1K (fk fv : Ev → R D) : Ev → R D := fun ρ => (fk ρ).bind fun k ρ1 => (fv ρ1).bind fun d ρ2 => match keyOf k with
  | some c => .ok (.dct true [c] [frz d]) ρ2
  | none => .stk
def fD1T (fk fv : Ev → R D) : Ev → R D := fun ρ => (fk ρ).bind fun k ρ1 => (fv ρ1).bind fun d ρ2 => match keysT k with
  | some c => .ok (.dcT true [c] [frz d]) ρ2
  | none => .stk
omit [TabC] in
theorem keysOf_frz : ∀ {ds : List D} {c : List Key}, keysOf ds = some c → frzs ds = ds
  | [], _, _ => rfl
  | d :: ds, c, h => by
    rw [keysOf] at h
    cases e1 : keyOf d with
    | none => rw [e1] at h; cases h
    | some k =>
      cases e2 : keysOf ds with
      | none => rw [e1, e2] at h; cases h
      | some ks =>
        have e3 : frz d = d := by
          unfold keyOf at e1
          split at e1
          · rfl
          · rfl
          · cases e1
        rw [frzs_cons, e3, keysOf_frz e2]
section
variable {X : Cx} {RX : RXR} {W : WX} {pos : Pos} {ek ev : Expr} {fk fv : Ev → R D}
theorem de_d1T (hu : X.A.units < cLine) (hk : DE X RX W ek fk) (hv : DE X RX W ev fv) : DE X RX W (.Dict [some ek] [ev] pos) (fD1T fk fv) := by
  refine pe_imp (pe_dispT hu (pps_cons hk hv pps_nil)) fun σ H Q q => ?_
  obtain ⟨P, ρ, FE, S, q⟩ := q
  intro p hp
  have n : New P H P (upd H p (.dT [])) (fun b => b = p) := New.lst hp S.pin
  have r0 : Rl true X.K P (upd H p (.dT [])) (.dcT true [] []) (.ref p) (fun b => b = p) := .dcTO (F' := E_) (vs := []) upd_same rfl rfl (fun _ => rfl) (fun b z => z.elim) .nil
  have S0 := n.stt S
  have T0 := n.tmp S r0
  have t0 : Tr P H (U FE) P (upd H p (.dT [])) (fun b => U FE b ∨ b = p) := n.tr
  refine ⟨P, ρ, FE, S0, ?_⟩
  unfold fD1T at q
  cases e1 : fk ρ with
  | exc x ρ1 => simp only [e1, R.bind] at q; exact fun cls dx P' H' FE' S' t r => q cls dx P' H' FE' S' (t0.less'.trans t) r
  | stk => simp only [e1, R.bind] at q
  | ok k ρ1 =>
    simp only [e1, R.bind] at q
    intro v P1 H1 FE1 F1 S1 T1 t1
    obtain ⟨T01, d01⟩ := T0.step S0 t1
    have S1' := S1.give fun b z => ⟨(T1.own b z).1, (T1.own b z).2.2⟩
    refine ⟨_, ρ1, FE1, S1', ?_⟩
    cases e2 : fv ρ1 with
    | exc x ρ2 => simp only [e2] at q; exact fun cls dx P' H' FE' S' t r => q cls dx P' H' FE' S' (t0.less'.trans (t1.give.trans t)) r
    | stk => simp only [e2] at q
    | ok d ρ2 =>
      simp only [e2] at q
      intro y P2 H2 FE2 F2 S2 T2 t2
      have T01' : Tmp X.K (fun b => P1 b ∨ F1 b) H1 FE1 (.dcT true [] []) (.ref p) (fun b => b = p) := ⟨rl_mono T01.rl (fun b z => .inl z) (fun _ _ e _ _ => e) fun _ z => z, fun b z => ⟨(T01.own b z).1, fun w => w.elim (T01.own b z).2.1 (d01 b z), (T01.own b z).2.2⟩⟩
      obtain ⟨T02, d02⟩ := T01'.step S1' t2
      cases ec : keysT k with
      | none => simp only [ec] at q
      | some c =>
        simp only [ec] at q
        have h2 : H2 p = some (.dT []) := by
          cases T02.rl with
          | dcTO e k n f s r => subst k; exact e
        have nd := T02.own p rfl
        have ndF : ¬ F2 p := d02 p rfl
        have S3 := S2.give fun b z => ⟨(T2.own b z).1, (T2.own b z).2.2⟩
        have rd : Rl true X.K (fun b => P2 b ∨ F2 b) H2 (frz d) y E_ := rl_frz T2.rl (fun b z => .inl z) fun b z => .inr z
        have nP3 : ¬ (P2 p ∨ F2 p) := fun z => z.elim nd.2.1 ndF
        have S4 := S3.write (o := .dT [(c, y)]) h2 .dT nP3 nd.2.2
        have t3 : Tr P H (U FE) (fun b => P2 b ∨ F2 b) H2 (fun b => U FE2 b ∨ b = p) := t0.seq ((t1.give.trans t2.give))
        have t4 := t3.write (o := .dT [(c, y)]) (.inr rfl)
        have r4 : Rl true X.K (fun b => P2 b ∨ F2 b) (upd H2 p (.dT [(c, y)])) (.dcT true [c] [frz d]) (.ref p) (fun b => b = p) :=
          .dcTO (F' := E_) (vs := [y]) upd_same rfl rfl (fun _ => rfl) (fun b z => z.elim) (.cons (F1 := E_) (F2 := E_) (rl_upd rd nP3 fun z => z) .nil (fun _ z => z.elim) (fun _ z => z.elim) fun _ z => z.elim)
        have rk0 : Rl true X.K (fun b => P1 b ∨ F1 b) H1 (frz k) v E_ := rl_frz T1.rl (fun b z => .inl z) fun b z => .inr z
        have rk : Rl true X.K P2 H2 (frz k) v E_ := rl_mono rk0 (fun b z => t2.mono b z) (fun b o e z => t2.frame b o e fun ⟨j, y⟩ => (S1'.fin j b y).2 ((z rfl).elim id False.elim)) fun _ z => z
        unfold keysT at ec
        split at ec
        · rename_i ds
          rw [frz_tup] at rk
          cases rk with
          | tup eb pb rb =>
            have ec' : keysOf (frzs ds) = some c := by
              rw [keysOf_frz ec]; exact ec
            rw [keysOf_rls rb ec'] at eb
            exact ⟨h2, c, _, y, rfl, eb, q (.ref p) _ _ FE2 _ S4 ⟨r4, fun b z => by subst z; exact ⟨by rw [upd_same]; simp, nP3, nd.2.2⟩⟩ t4⟩
        · cases ec
end
end Hap
namespace Hap
open PySem PySem.Spec PyProof.Rows L2
variable [TabC]
section
variable {K : PySem.W.Frag} {P : AS} {H : Hp}
omit [TabC] in
theorem rls_erase : ∀ {ds : List D} {vs : List V} {F : AS} (j : Nat), Rls true K P H ds vs F → Rls true K P H (ds.eraseIdx j) (vs.eraseIdx j) F
  | _, _, _, _, .nil => .nil
  | _, _, _, 0, .cons r rs s1 s2 dj => rls_mono rs (fun _ q => q) (fun _ _ e _ _ => e) s2
  | _, _, _, j + 1, .cons (F1 := G1) (F2 := G2) r rs s1 s2 dj => .cons (F1 := G1) (F2 := G2) r (rls_erase j rs) s1 s2 dj
end
def isL1 (o : Option (Option D)) (k : List D → R D) : R D := match o with
  | some (some (.lst true xs)) => k xs
  | _ => .stk
omit [TabC] in
theorem isL1_cases {o : Option (Option D)} {k : List D → R D} : (∃ xs, o = some (some (.lst true xs)) ∧ isL1 o k = k xs) ∨ isL1 o k = .stk := by
  unfold isL1
  split
  · exact .inl ⟨_, rfl, rfl⟩
  · exact .inr rfl
def popD (xs : List D) (i j : Nat) (ρ : Ev) : R D := match xs[j]? with
  | some d => if isImm d = true ∧ xs.length ≤ sizeLine then .ok d (ρ.set i (some (.lst true (xs.eraseIdx j)))) else .stk
  | none => .stk
def fPop0 (i : Nat) : Ev → R D := fun ρ => isL1 ρ[i]? fun xs => popD xs i (xs.length - 1) ρ
def int1 (ds : List D) (k : Int → R D) : R D := match ds with
  | [.int n] => k n
  | _ => .stk
def natR (o : Option Nat) (k : Nat → R D) : R D := match o with
  | some j => k j
  | none => .stk
omit [TabC] in
theorem int1_cases {ds : List D} {k : Int → R D} : (∃ n, ds = [.int n] ∧ int1 ds k = k n) ∨ int1 ds k = .stk := by
  unfold int1
  split
  · exact .inl ⟨_, rfl, rfl⟩
  · exact .inr rfl
def fPopA (i : Nat) (f : Ev → R (List D)) : Ev → R D := fun ρ => isL1 ρ[i]? fun _ => (f ρ).bind fun ds ρ1 => int1 ds fun n => isL1 ρ1[i]? fun xs => natR (ixN xs.length n) fun j => popD xs i j ρ1
section
variable {X : Cx} {RX : RXR} {W : WX} {P : AS} {H : Hp} {ρ : Ev} {σ : L2.St} {FE : FP}
/-- one is taken out of a slot's list -/
theorem pop_slot {xs : List D} {i j : Nat} {d : D} {ρ' : Ev} (S : Stt X.K P H ρ σ FE) (e0 : ρ[i]? = some (some (.lst true xs))) (g : popD xs i j ρ = .ok d ρ') :
    xs.length ≤ sizeLine ∧ ∃ p vs y, σ[i]? = some (some (.ref p)) ∧ H p = some (.lst vs) ∧ xs.length = vs.length ∧ vs[j]? = some y ∧ ∃ FE', Stt X.K P (upd H p (.lst (vs.eraseIdx j))) ρ' σ FE' ∧ Tmp X.K P (upd H p (.lst (vs.eraseIdx j))) FE' d y E_ ∧ Tr P H (U FE) P (upd H p (.lst (vs.eraseIdx j))) (fun b => U FE' b ∨ E_ b) := by
  unfold popD at g
  split at g
  · rename_i d0 ed
    split at g
    · rename_i imz
      obtain ⟨im, imz⟩ := imz
      cases g
      refine ⟨imz, ?_⟩
      obtain ⟨p, vs, F', ev, h1, h2, h3, h4⟩ := slot_lst S e0
      obtain ⟨y, ey, ry⟩ := rls_get h4 ed
      have nP := (S.fin i p h2).2
      have nF' : ¬ F' p := fun z => (h3 p z).2 rfl
      obtain ⟨S2, t2⟩ := slot_write (F1 := E_) (o := .lst (vs.eraseIdx j)) (d' := .lst true (xs.eraseIdx j)) S h1 .lst ev h2 (fun b z => z.elim)
        (.lstO (F' := F') upd_same (fun _ => .inl h2) (fun b z => ⟨.inl (h3 b z).1, (h3 b z).2⟩) (rls_erase j (rls_upd h4 nP nF')))
      refine ⟨p, vs, y, ev, h1, rls_len h4, ey, _, S2, ⟨rl_imm (rl_upd (F' := E_) (rl_imm ry im) nP fun z => z) im, fun _ z => z.elim⟩, ?_⟩
      exact ⟨fun b o e n => t2.frame b o e fun z => z.elim n fun w => w.elim, t2.mono, fun b z => (t2.back b z).imp id fun w => w.imp (fun u => u.elim id fun w => w.elim) id, fun b z => (t2.sub b (z.elim id fun w => w.elim)).imp (fun u => u.elim id fun w => w.elim) id, t2.alive⟩
    · cases g
  · cases g
omit [TabC] in
theorem popD_cases {xs : List D} {i j : Nat} {ρ : Ev} : (∃ d ρ', popD xs i j ρ = .ok d ρ') ∨ popD xs i j ρ = .stk := by
  unfold popD
  split
  · split
    · exact .inl ⟨_, _, rfl⟩
    · exact .inr rfl
  · exact .inr rfl
theorem de_popA {e : Expr} {i : Nat} {f : Ev → R (List D)} (h : PE X e (tBM X.K "list" rPopAt (tVar i) (tA X.K RX W f))) : DE X RX W e (fPopA i f) := by
  refine pe_imp h fun σ H Q q => ?_
  obtain ⟨P, ρ, FE, S, q⟩ := q
  unfold fPopA at q
  rcases isL1_cases (o := ρ[i]?) (k := fun _ => (f ρ).bind fun ds ρ1 => int1 ds fun n => isL1 ρ1[i]? fun xs => natR (ixN xs.length n) fun j => popD xs i j ρ1) with ⟨xs0, e0, eq⟩ | eq
  · rw [eq] at q
    obtain ⟨p0, vs0, F0, ev0, h0, _, _, _⟩ := slot_lst S e0
    refine ⟨.ref p0, ev0, .inl ⟨rfl, vs0, .inl (.inl h0)⟩, P, ρ, FE, S, ?_⟩
    cases e1 : f ρ with
    | exc x ρ1 => simp only [e1, R.bind] at q; exact q
    | stk => simp only [e1, R.bind] at q
    | ok ds ρ1 =>
      simp only [e1, R.bind] at q
      intro ws P1 H1 FE1 F1 S1 T1 t1
      rcases int1_cases (ds := ds) (k := fun n => isL1 ρ1[i]? fun xs => natR (ixN xs.length n) fun j => popD xs i j ρ1) with ⟨n, rfl, eq⟩ | eq
      · rw [eq] at q
        rcases isL1_cases (o := ρ1[i]?) (k := fun xs => natR (ixN xs.length n) fun j => popD xs i j ρ1) with ⟨xs, e2, eq⟩ | eq
        · rw [eq] at q
          cases ej : ixN xs.length n with
          | none => rw [ej] at q; exact q.elim
          | some j =>
            rw [ej] at q
            unfold natR at q
            dsimp only at q
            rcases popD_cases (xs := xs) (i := i) (j := j) (ρ := ρ1) with ⟨d, ρ2, g⟩ | g
            · rw [g] at q
              obtain ⟨w, rfl, rw'⟩ := rls1 T1.rl
              rw [rl_int rw']
              obtain ⟨z, p, vs, y, ev, h1, hl, hy, FE', S2, T2, t2⟩ := pop_slot S1 e2 g
              rw [ev0] at ev; cases ev
              obtain ⟨k1, k2, k3, k4⟩ := ixN_seq ej
              have hz : sizeLine < 2 ^ 63 := by rw [sizeLine_eq]; decide
              exact ⟨p0, vs, n, j, y, rfl, rfl, h1, by omega, by omega, by rw [← hl]; exact k1, hy, q y _ _ _ _ S2 T2 (t1.less'.trans t2)⟩
            · rw [g] at q; exact q.elim
        · rw [eq] at q; exact q.elim
      · rw [eq] at q; exact q.elim
  · rw [eq] at q; exact q.elim
end
def ranD (n : Nat) : List D := (List.range n).map fun i => .int ((i : Nat) : Int)
def rgC (ds : List D) (k : Nat → R D) : R D := int1 ds fun n => if 0 ≤ n ∧ n ≤ 16777216 then k n.toNat else .stk
def fRgL (f : Ev → R D) : Ev → R D := fun ρ => (f ρ).bind fun d ρ1 => rgC [d] fun n => .ok (.lst true (ranD n)) ρ1
def fRgT (f : Ev → R D) : Ev → R D := fun ρ => (f ρ).bind fun d ρ1 => rgC [d] fun n => .ok (.tup (ranD n)) ρ1
section
variable {K : PySem.W.Frag} {P P' : AS} {H H' : Hp} {ρ : Ev} {σ : L2.St} {FE : FP}
theorem slot_writeN {i : Nat} {p : Addr} {v : V} {o u0 : HO} {d' : D} (S : Stt K P H ρ σ FE) (he : H p = some u0) (nd : Nd u0) (hv : σ[i]? = some (some v)) (hp : FE i p)
    (r : Rl true K P (upd H p o) d' v (FE i)) :
    Stt K P (upd H p o) (ρ.set i (some d')) σ FE ∧ Tr P H (U FE) P (upd H p o) (U FE) := by
  have nP : ¬ P p := (S.fin i p hp).2
  have al : ∀ b, H b ≠ none → upd H p o b ≠ none := fun b h => by
    by_cases e : b = p
    · subst e; rw [upd_same]; simp
    · rw [upd_ne e]; exact h
  refine ⟨⟨fun b q => al b (S.pin b q), fun j b q => ⟨al b (S.fin j b q).1, (S.fin j b q).2⟩, S.dj, fun j d e => ?_, by simpa using S.len, tabs_write S.tab he nd⟩, ⟨fun b u e n nt => ?_, fun _ q => q, fun _ q => .inl q, fun b q => .inl q, al⟩⟩
  · by_cases h : j = i
    · subst h
      have hl : j < ρ.length := by
        have := (List.getElem?_eq_some_iff.mp e).1
        simpa using this
      rw [List.getElem?_set_self hl] at e
      cases e
      exact ⟨_, hv, r⟩
    · rw [List.getElem?_set_ne (Ne.symm h)] at e
      obtain ⟨v, e1, r1⟩ := S.rel j d e
      refine ⟨v, e1, rl_mono r1 (fun _ q => q) (fun b u e q _ => ?_) fun b q => q⟩
      rw [upd_ne]
      · exact e
      · intro z; subst z
        exact (q rfl).elim nP fun w => h (S.dj _ _ _ w hp)
  · rw [upd_ne]
    · exact e
    · intro z; subst z; exact n ⟨i, hp⟩
omit [TabC] in
theorem rls_atN : ∀ {ds : List D} {vs : List V} {F : AS} {k : Nat} {d0 : D}, Rls true K P H ds vs F → ds[k]? = some d0 → ∃ v' F1, vs[k]? = some v' ∧ (∀ b, F1 b → F b) ∧ Rl true K P H d0 v' F1 ∧
    ∀ (a : Addr) (o : HO) (d' : D), F1 a → ¬ P a → Rl true K P (upd H a o) d' v' F1 → Rls true K P (upd H a o) (ds.set k d') vs F
  | _, _, _, _, _, .nil, e => by simp at e
  | _, _, _, 0, _, .cons (F1 := G1) (F2 := G2) r rs s1 s2 dj, e => by
    simp at e; subst e
    exact ⟨_, G1, rfl, s1, r, fun a o d' hF nP r' => .cons (F1 := G1) (F2 := G2) r' (rls_upd rs nP fun z => dj a hF z) s1 s2 dj⟩
  | _, _, _, k + 1, _, .cons (F1 := G1) (F2 := G2) r rs s1 s2 dj, e => by
    obtain ⟨v', F1, h1, h2, h3, h4⟩ := rls_atN (k := k) rs (by simpa using e)
    exact ⟨v', F1, by simpa using h1, fun b z => s2 b (h2 b z), h3, fun a o d' hF nP r' => .cons (F1 := G1) (F2 := G2) (rl_upd r nP fun z => dj a z (h2 a hF)) (h4 a o d' hF nP r') s1 s2 dj⟩
end
/-- a list of lists, changed at two places -/
def setN (xs : List D) (n m : Int) (d : D) : Option D := (ixN xs.length n).bind fun k => match xs[k]? with
  | some (.lst true ys) => (ixN ys.length m).map fun j => .lst true (xs.set k (.lst true (ys.set j d)))
  | _ => none
def intS3 (o : Option D) (k : Int → RS) : RS := match o with
  | some (.int n) => k n
  | _ => .stk
def lstO1 (o : Option (Option D)) (k : List D → RS) : RS := match o with
  | some (some (.lst true xs)) => k xs
  | _ => .stk
def optS (o : Option D) (k : D → RS) : RS := match o with
  | some d => k d
  | none => .stk
def fSetN (i : Nat) (f : Ev → R D) (g1 g2 : Ev → Option D) : Ev → RS := fun ρ => RS.of (f ρ) fun d ρ1 => if isImm d = true then lstO1 ρ1[i]? fun xs => intS3 (g1 ρ1) fun n => intS3 (g2 ρ1) fun m => optS (setN xs n m d) fun d' => .nx (ρ1.set i (some d')) else .stk
end Hap
namespace Hap
open PySem PySem.Spec PyProof.Rows L2 PySem.W
variable [TabC]
def ltT (a b : Str) : Bool := decide (a.cps.toList < b.cps.toList)
end Hap
namespace Hap
open PySem PySem.Spec PyProof.Rows L2
section
variable {ρ : Ev} {i : Nat} {f f' : Ev → R D} {g1 g2 : Ev → Option D} {fa : Ev → R (List D)}
@[simp] theorem ap_setN : fSetN i f g1 g2 ρ = RS.of (f ρ) fun d ρ1 => if isImm d = true then lstO1 ρ1[i]? fun xs => intS3 (g1 ρ1) fun n => intS3 (g2 ρ1) fun m => optS (setN xs n m d) fun d' => .nx (ρ1.set i (some d')) else .stk := (rfl)
@[simp] theorem lstO1_s {xs : List D} {k : List D → RS} : lstO1 (some (some (.lst true xs))) k = k xs := (rfl)
@[simp] theorem intS3_s {n : Int} {k : Int → RS} : intS3 (some (.int n)) k = k n := (rfl)
@[simp] theorem optS_s {d : D} {k : D → RS} : optS (some d) k = k d := (rfl)
@[simp] theorem ap_rgL : fRgL f ρ = (f ρ).bind fun d ρ1 => rgC [d] fun n => .ok (.lst true (ranD n)) ρ1 := (rfl)
@[simp] theorem ap_rgT : fRgT f ρ = (f ρ).bind fun d ρ1 => rgC [d] fun n => .ok (.tup (ranD n)) ρ1 := (rfl)
@[simp] theorem ap_d1K : fD1K f f' ρ = (f ρ).bind fun k ρ1 => (f' ρ1).bind fun d ρ2 => match keyOf k with
  | some c => .ok (.dct true [c] [frz d]) ρ2
  | none => .stk := (rfl)
@[simp] theorem ap_d1T : fD1T f f' ρ = (f ρ).bind fun k ρ1 => (f' ρ1).bind fun d ρ2 => match keysT k with
  | some c => .ok (.dcT true [c] [frz d]) ρ2
  | none => .stk := (rfl)
@[simp] theorem ap_pop0 : fPop0 i ρ = isL1 ρ[i]? fun xs => popD xs i (xs.length - 1) ρ := (rfl)
@[simp] theorem ap_popA : fPopA i fa ρ = isL1 ρ[i]? fun _ => (fa ρ).bind fun ds ρ1 => int1 ds fun n => isL1 ρ1[i]? fun xs => natR (ixN xs.length n) fun j => popD xs i j ρ1 := (rfl)
@[simp] theorem isL1_s {xs : List D} {k : List D → R D} : isL1 (some (some (.lst true xs))) k = k xs := (rfl)
@[simp] theorem int1_s {n : Int} {k : Int → R D} : int1 [.int n] k = k n := (rfl)
end
end Hap
namespace Hap
open PySem PySem.Spec PyProof.Rows L2
variable [TabC]
def two1 (ds : List D) (k : D → D → RS) : RS := match ds with
  | [d, e] => k d e
  | _ => .stk
def RSofL (r : R (List D)) (k : List D → Ev → RS) : RS := match r with
  | .ok ds ρ => k ds ρ
  | .exc x ρ => .exc x ρ
  | .stk => .stk
def fPar (i j : Nat) (f : Ev → R (List D)) : Ev → RS := fun ρ => RSofL (f ρ) fun ds ρ1 => two1 ds fun d e => .nx ((ρ1.set i (some d)).set j (some e))
section
variable {ρ : Ev} {i j : Nat} {f : Ev → R (List D)}
omit [TabC]
@[simp] theorem ap_par : fPar i j f ρ = RSofL (f ρ) fun ds ρ1 => two1 ds fun d e => .nx ((ρ1.set i (some d)).set j (some e)) := (rfl)
@[simp] theorem ofL_ok {ds : List D} {k : List D → Ev → RS} : RSofL (.ok ds ρ) k = k ds ρ := (rfl)
@[simp] theorem two1_s {d e : D} {k : D → D → RS} : two1 [d, e] k = k d e := (rfl)
end
end Hap
namespace Hap
open PySem PySem.Spec PyProof.Rows L2
variable [TabC]
section
variable {X : Cx} {RX : RXR} {W : WX} {tg e : Expr} {x : Str} {p pos : Pos} {a : Addr} {ws : List Str}
def fItC (ws : List Str) : Ev → R (List D) := fun ρ => .ok (ws.map .str) ρ
end
section
variable {ρ : Ev} {ws : List Str} {x : Str}
omit [TabC]
@[simp] theorem ap_itC : fItC ws ρ = .ok (ws.map .str) ρ := (rfl)
end
end Hap
namespace Hap
open PySem PySem.Spec PyProof.Rows L2 PySem.W
end Hap
namespace Hap
open PySem PySem.Spec PyProof.Rows L2
variable [TabC]
def noX (r : RS) : RS := match r with
  | .exc _ _ => .stk
  | r => r
def fForK (i : Nat) (t : D → Ev → Option Ev) (g : Ev → RS) : Ev → RS := fun ρ => match ρ[i]? with
  | some (some (.dct o ks xs)) => noX (loopS (stepS t g) (ks.map keyD) (ρ.set i (some (frz (.dct o ks xs)))))
  | _ => .stk
section
variable {ρ : Ev} {i : Nat} {t : D → Ev → Option Ev} {g : Ev → RS}
def forKR (o : Option (Option D)) (i : Nat) (t : D → Ev → Option Ev) (g : Ev → RS) (ρ : Ev) : RS := match o with
  | some (some (.dct o ks xs)) => noX (loopS (stepS t g) (ks.map keyD) (ρ.set i (some (frz (.dct o ks xs)))))
  | _ => .stk
omit [TabC] in
@[simp] theorem ap_forK : fForK i t g ρ = forKR ρ[i]? i t g ρ := by unfold fForK forKR; rfl
omit [TabC] in
@[simp] theorem forKR_s {o : Bool} {ks : List Key} {xs : List D} : forKR (some (some (.dct o ks xs))) i t g ρ = noX (loopS (stepS t g) (ks.map keyD) (ρ.set i (some (.dct false ks (frzs xs))))) := (rfl)
omit [TabC] in
@[simp] theorem noX_nx {ρ : Ev} : noX (.nx ρ) = .nx ρ := (rfl)
omit [TabC] in
@[simp] theorem noX_rt {ρ : Ev} {d : D} : noX (.rt d ρ) = .rt d ρ := (rfl)
end
end Hap
namespace Hap
open PySem PySem.Spec PyProof.Rows L2
variable [TabC]
def gTL (n : Nat) (u : List D → Ev → Option Ev) : D → Ev → Option Ev := fun d ρ => match d with
  | .lst false ds => if ds.length = n then u ds ρ else none
  | _ => none
section
variable {ρ : Ev}
omit [TabC] in
@[simp] theorem ap_gTL {n u} {ds : List D} : gTL n u (.lst false ds) ρ = if ds.length = n then u ds ρ else none := (rfl)
end
end Hap
namespace Hap
open PySem PySem.Spec PyProof.Rows L2
variable [TabC]
def insD (xs : List D) (ds : List D) : Option (List D) := match ds with
  | [.int n, e] => if isImm e = true ∧ 0 ≤ n ∧ n < 2 ^ 63 ∧ xs.length < sizeLine then some (xs.take n.toNat ++ [e] ++ xs.drop n.toNat) else none
  | _ => none
end Hap
namespace Hap
open PySem PySem.Spec PyProof.Rows L2
variable [TabC]
def modP (g : List D → Option (List D)) : List Int → D → Option D
  | [], d => (match d with
    | .lst true xs => (g xs).map (.lst true)
    | _ => none)
  | j :: js, d => (match d with
    | .tup ds => (ixN ds.length j).bind fun k => (ds[k]?).bind fun d0 => (modP g js d0).map fun d' => .tup (ds.set k d')
    | .lst true ds => (ixN ds.length j).bind fun k => (ds[k]?).bind fun d0 => (modP g js d0).map fun d' => .lst true (ds.set k d')
    | _ => none)
def gRev (xs : List D) : Option (List D) := some xs.reverse
def setR (o : Option D) (i : Nat) (ρ : Ev) : RS := match o with
  | some d2 => .nx (ρ.set i (some d2))
  | none => .stk
def setM (g : List D → Option (List D)) (js : List Int) (o : Option (Option D)) (i : Nat) (ρ : Ev) : RS := match o with
  | some (some d) => setR (modP g js d) i ρ
  | _ => .stk
def gEmp (xs : List D) : Option (List D) := if xs.length < sizeLine then some (xs ++ [.lst false []]) else none
/-- x[..].reverse() -/
def fRevP (i : Nat) (js : List Int) : Ev → RS := fun ρ => setM gRev js ρ[i]? i ρ
/-- x[..].append([]) -/
def fEmpP (i : Nat) (js : List Int) : Ev → RS := fun ρ => setM gEmp js ρ[i]? i ρ
section
variable {ρ : Ev} {i : Nat} {js : List Int} {d : D} {g : List D → Option (List D)}
omit [TabC]
@[simp] theorem ap_revP : fRevP i js ρ = setM gRev js ρ[i]? i ρ := (rfl)
@[simp] theorem ap_empP : fEmpP i js ρ = setM gEmp js ρ[i]? i ρ := (rfl)
@[simp] theorem setM_s : setM g js (some (some d)) i ρ = setR (modP g js d) i ρ := (rfl)
@[simp] theorem setR_s : setR (some d) i ρ = .nx (ρ.set i (some d)) := (rfl)
end
end Hap
namespace Hap
open PySem PySem.Spec PyProof.Rows L2
variable [TabC]
def fCallIOM (j : Nat) (sem : Fn) (f1 : Ev → R D) : Ev → R D := fun ρ => match ρ[j]? with
  | some (some _) => (f1 ρ).bind fun d1 ρ1 => match ρ1[j]? with
    | some (some d0) => callR (sem [d0, d1]) ρ1 fun outs => ρ1.set j (hd0 outs)
    | _ => .stk
  | _ => .stk
section
variable {ρ : Ev} {i : Nat} {f : Ev → R D} {sem : Fn}
def callM (o : Option (Option D)) (j : Nat) (sem : Fn) (d1 : D) (ρ1 : Ev) : R D := match o with
  | some (some d0) => callR (sem [d0, d1]) ρ1 fun outs => ρ1.set j (hd0 outs)
  | _ => .stk
omit [TabC] in
@[simp] theorem ap_callIOM : fCallIOM i sem f ρ = isS ρ[i]? fun _ => (f ρ).bind fun d1 ρ1 => callM ρ1[i]? i sem d1 ρ1 := by unfold fCallIOM isS callM; rfl
omit [TabC] in
@[simp] theorem callM_s {d0 d1 : D} : callM (some (some d0)) i sem d1 ρ = callR (sem [d0, d1]) ρ fun outs => ρ.set i (hd0 outs) := (rfl)
end
end Hap
namespace Hap
open PySem PySem.Spec PyProof.Rows L2
variable [TabC]
def rtInt (r : RF) (k : Int → Ev → RS) : RS := match r with
  | .rt (.int n) outs => k n outs
  | _ => .stk
def slD (o : Option (Option D)) (k : D → RS) : RS := match o with
  | some (some d) => k d
  | _ => .stk
def fSetNC (i : Nat) (f : Ev → R D) (g1 : Ev → Option D) (j : Nat) (sem : Fn) (g3 : Ev → Option D) : Ev → RS := fun ρ => if i = j then .stk else
  RS.of (f ρ) fun d ρ1 => if isImm d = true then lstO1 ρ1[i]? fun xs => intS3 (g1 ρ1) fun n => slD ρ1[j]? fun d0 => intS3 (g3 ρ1) fun m => rtInt (sem [d0, .int m]) fun m2 outs => optS (setN xs n m2 d) fun d' => .nx ((ρ1.set j (hd0 outs)).set i (some d')) else .stk
end Hap
namespace Hap
open PySem PySem.Spec PyProof.Rows L2
variable [TabC]
theorem Stt.hide {K : PySem.W.Frag} {P : AS} {H : Hp} {ρ : Ev} {σ : L2.St} {FE : FP} (i : Nat) (S : Stt K P H ρ σ FE) : Stt K P H (ρ.set i none) σ (fun k b => k ≠ i ∧ FE k b) := by
  refine ⟨S.pin, fun k b z => S.fin k b z.2, fun k k' b z w => S.dj k k' b z.2 w.2, fun k d e => ?_, by simpa using S.len, S.tab⟩
  by_cases h : k = i
  · subst h
    by_cases hl : k < ρ.length
    · rw [List.getElem?_set_self hl] at e; cases e
    · rw [List.getElem?_eq_none (by rw [List.length_set]; omega)] at e; cases e
  · rw [List.getElem?_set_ne (Ne.symm h)] at e
    obtain ⟨v, e1, r⟩ := S.rel k d e
    exact ⟨v, e1, rl_mono r (fun _ q => q) (fun _ _ e _ _ => e) fun b z => ⟨h, z⟩⟩
theorem Tr.widen {P P1 : AS} {H H1 : Hp} {U0 U1 U2 : AS} (t : Tr P H U0 P1 H1 U1) (h : ∀ b, U0 b → U2 b) : Tr P H U2 P1 H1 U1 :=
  ⟨fun b o e n => t.frame b o e fun z => n (h b z), t.mono, fun b z => (t.back b z).imp id (Or.imp (h b) id), fun b z => (t.sub b z).imp (h b) id, t.alive⟩
/-- what was put by comes back as it was -/
theorem Stt.unhide {K : PySem.W.Frag} {P P1 : AS} {H H1 : Hp} {ρ ρ1 : Ev} {σ : L2.St} {FE FE1 : FP} {i : Nat} {d : D} {F1 : AS} (S : Stt K P H ρ σ FE) (e : ρ[i]? = some (some d)) (S1 : Stt K P1 H1 ρ1 σ FE1) (t : Tr P H (U fun k b => k ≠ i ∧ FE k b) P1 H1 (fun b => U FE1 b ∨ F1 b)) (T : ∀ b, F1 b → H1 b ≠ none ∧ ¬ P1 b ∧ ¬ U FE1 b) :
    Stt K P1 H1 (ρ1.set i (some d)) σ (fun k b => (k = i ∧ FE i b) ∨ (k ≠ i ∧ FE1 k b)) ∧ Tr P H (U FE) P1 H1 (fun b => U (fun k b => (k = i ∧ FE i b) ∨ (k ≠ i ∧ FE1 k b)) b ∨ F1 b) ∧ (∀ b, F1 b → ¬ U (fun k b => (k = i ∧ FE i b) ∨ (k ≠ i ∧ FE1 k b)) b) ∧ ∀ b o, FE i b → H b = some o → NT o → H1 b = some o := by
  have nU : ∀ b, FE i b → ¬ U (fun k b => k ≠ i ∧ FE k b) b := fun b z ⟨k, w⟩ => w.1 (S.dj k i b w.2 z)
  have keep : ∀ b o, FE i b → H b = some o → NT o → H1 b = some o := fun b o z e n => t.frame b o e (nU b z) n
  have nP1 : ∀ b, FE i b → ¬ P1 b := fun b z w => by
    rcases t.back b w with q | q | q
    · exact (S.fin i b z).2 q
    · exact nU b z q
    · exact (S.fin i b z).1 q
  have old : ∀ b, FE i b → ¬ (U FE1 b ∨ F1 b) := fun b z w => by
    rcases t.sub b w with q | q
    · exact nU b z q
    · exact (S.fin i b z).1 q
  have sb : ∀ b, U (fun k b => k ≠ i ∧ FE k b) b → U FE b := fun b ⟨k, w⟩ => ⟨k, w.2⟩
  refine ⟨⟨S1.pin, fun k b z => ?_, fun k k' b z w => ?_, fun k d' e' => ?_, by simpa using S1.len, S1.tab⟩, ⟨fun b o e n => t.frame b o e fun z => n (sb b z), t.mono, fun b z => (t.back b z).imp id (Or.imp (sb b) id), fun b z => ?_, t.alive⟩, fun b z w => ?_, keep⟩
  · rcases z with z | z
    · exact ⟨t.alive b (S.fin i b z.2).1, nP1 b z.2⟩
    · exact S1.fin k b z.2
  · rcases z with z | z <;> rcases w with w | w
    · exact z.1.trans w.1.symm
    · exact (old b z.2 (.inl ⟨k', w.2⟩)).elim
    · exact (old b w.2 (.inl ⟨k, z.2⟩)).elim
    · exact S1.dj k k' b z.2 w.2
  · by_cases h : k = i
    · subst h
      have hl : k < ρ1.length := by
        have := (List.getElem?_eq_some_iff.mp e').1
        simpa using this
      rw [List.getElem?_set_self hl] at e'
      cases e'
      obtain ⟨v, ev, r⟩ := S.rel k d e
      refine ⟨v, ev, rl_mono r (fun b q => t.mono b q) (fun b o e2 q nt => ?_) fun b z => .inl ⟨rfl, z⟩⟩
      rcases q rfl with q | q
      · exact t.frame b o e2 (fun ⟨k', w⟩ => (S.fin k' b w.2).2 q) nt
      · exact keep b o q e2 nt
    · rw [List.getElem?_set_ne (Ne.symm h)] at e'
      obtain ⟨v, ev, r⟩ := S1.rel k d' e'
      exact ⟨v, ev, rl_mono r (fun _ q => q) (fun _ _ e _ _ => e) fun b z => .inr ⟨h, z⟩⟩
  · rcases z with ⟨k, z | z⟩ | z
    · exact .inl ⟨i, z.2⟩
    · exact (t.sub b (.inl ⟨k, z.2⟩)).imp (sb b) id
    · exact (t.sub b (.inr z)).imp (sb b) id
  · obtain ⟨k, w | w⟩ := w
    · exact old b w.2 (.inr z)
    · exact (T b z).2.2 ⟨k, w.2⟩
def atN (xs : List D) (n : Int) (k : Nat → List D → RS) : RS := match ixN xs.length n with
  | some j => (match xs[j]? with
    | some (.lst true ys) => k j ys
    | _ => .stk)
  | none => .stk
def oneI (ds : List D) (k : D → RS) : RS := match ds with
  | [d] => if isImm d = true then k d else .stk
  | _ => .stk
omit [TabC] in
theorem oneI_cases {ds : List D} {k : D → RS} : (∃ d, ds = [d] ∧ isImm d = true ∧ oneI ds k = k d) ∨ oneI ds k = .stk := by
  unfold oneI
  split
  · rename_i d
    by_cases c : isImm d = true
    · exact .inl ⟨d, rfl, c, if_pos c⟩
    · exact .inr (if_neg c)
  · exact .inr rfl
def fAppN (i : Nat) (g1 : Ev → Option D) (f : Ev → R (List D)) : Ev → RS := fun ρ => lstO1 ρ[i]? fun xs => intS3 (g1 ρ) fun n => atN xs n fun j ys =>
  RS.of (f (ρ.set i none)) fun ds ρ1 => oneI ds fun d => if ys.length < sizeLine then .nx (ρ1.set i (some (.lst true (xs.set j (.lst true (ys ++ [d])))))) else .stk
section
variable {ρ : Ev} {i : Nat} {g1 : Ev → Option D} {f : Ev → R (List D)}
omit [TabC]
@[simp] theorem ap_appN : fAppN i g1 f ρ = lstO1 ρ[i]? fun xs => intS3 (g1 ρ) fun n => atN xs n fun j ys => RS.of (f (ρ.set i none)) fun ds ρ1 => oneI ds fun d => if ys.length < sizeLine then .nx (ρ1.set i (some (.lst true (xs.set j (.lst true (ys ++ [d])))))) else .stk := (rfl)
@[simp] theorem oneI_s {d : D} {k : D → RS} : oneI [d] k = if isImm d = true then k d else .stk := (rfl)
@[simp] theorem ap_setNC {j : Nat} {fv : Ev → R D} {g3 : Ev → Option D} {sem : Fn} : fSetNC i fv g1 j sem g3 ρ = if i = j then .stk else RS.of (fv ρ) fun d ρ1 => if isImm d = true then lstO1 ρ1[i]? fun xs => intS3 (g1 ρ1) fun n => slD ρ1[j]? fun d0 => intS3 (g3 ρ1) fun m => rtInt (sem [d0, .int m]) fun m2 outs => optS (setN xs n m2 d) fun d' => .nx ((ρ1.set j (hd0 outs)).set i (some d')) else .stk := (rfl)
end
end Hap
namespace Hap
open PySem PySem.Spec PyProof.Rows L2
variable [TabC]
def gAddT (d e : D) : Option D := match d, e with
  | .tup xs, .tup ys => if (isImms xs = true ∧ isImms ys = true) ∧ xs.length + ys.length ≤ sizeLine then some (.tup (xs ++ ys)) else none
  | _, _ => none
theorem vAddT {K : PySem.W.Frag} : VOp2 K (rCatA K) gAddT := by
  intro P H d e v w x Q pin r1 r2 g h
  unfold gAddT at g
  split at g
  · rename_i xs ys
    split at g
    · rename_i c
      cases g
      obtain ⟨p, vs, rfl, e1, _, rs1⟩ := tup_read r1
      obtain ⟨q, ws, rfl, e2, _, rs2⟩ := tup_read r2
      have l1 := rls_len rs1
      have l2 := rls_len rs2
      refine ⟨p, q, vs, ws, rfl, rfl, .inl (.inl e1), .inl (.inl e2), by omega, fun z => ?_, fun z z2 => ?_, fun z z2 a ha => ?_⟩
      · have : xs = [] := List.eq_nil_of_length_eq_zero (by rw [l1, z]; rfl)
        subst this
        rw [List.nil_append] at h
        exact h _ P H E_ New.refl (rl_imm r2 (by simpa only [isImm] using c.1.2 : isImm (.tup ys) = true))
      · have : ys = [] := List.eq_nil_of_length_eq_zero (by rw [l2, z2]; rfl)
        subst this
        rw [List.append_nil] at h
        exact h _ P H E_ New.refl (rl_imm r1 (by simpa only [isImm] using c.1.1))
      · obtain ⟨n, r⟩ := new_tup ha (isImms_app c.1.1 c.1.2) (rls_app rs1 rs2)
        exact h _ _ _ _ n r
    · cases g
  · cases g
omit [TabC] in
theorem add_tt {xs ys : List D} : gAddT (.tup xs) (.tup ys) = if (isImms xs = true ∧ isImms ys = true) ∧ xs.length + ys.length ≤ sizeLine then some (.tup (xs ++ ys)) else none := rfl
end Hap
namespace Hap
open PySem PySem.Spec PyProof.Rows L2
variable [TabC]
omit [TabC] in
theorem memK_false {κ : Type} [DecidableEq κ] {k : κ} {ks : List κ} (h : memK k ks = false) : k ∉ ks := by unfold memK at h; exact of_decide_eq_false h
def putO (o : Option (Option D)) (i : Nat) (e d : D) (ρ : Ev) : RS := match o with
  | some (some (.dcT true ks xs)) => (match keysT e with
    | some c => if memK c ks = false ∧ xs.length < sizeLine then .nx (ρ.set i (some (.dcT true (ks ++ [c]) (xs ++ [d])))) else .stk
    | none => .stk)
  | _ => .stk
omit [TabC] in
theorem putO_cases {o : Option (Option D)} {i : Nat} {e d : D} {ρ : Ev} : (∃ ks xs c, o = some (some (.dcT true ks xs)) ∧ keysT e = some c ∧ memK c ks = false ∧ xs.length < sizeLine ∧ putO o i e d ρ = .nx (ρ.set i (some (.dcT true (ks ++ [c]) (xs ++ [d]))))) ∨ putO o i e d ρ = .stk := by
  unfold putO
  split
  · rename_i ks xs
    split
    · rename_i c ec
      by_cases h : memK c ks = false ∧ xs.length < sizeLine
      · exact .inl ⟨ks, xs, c, rfl, ec, h.1, h.2, if_pos h⟩
      · exact .inr (if_neg h)
    · exact .inr rfl
  · exact .inr rfl
def fPutO (i : Nat) (f k : Ev → R D) : Ev → RS := fun ρ => RS.of (f ρ) fun d ρ1 => isSS ρ1[i]? (RS.of (k ρ1) fun e ρ2 => putO ρ2[i]? i e d ρ2)
omit [TabC] in
theorem putK_new {κ : Type} [DecidableEq κ] : ∀ {ks : List κ} {vs : List V} {c : κ} {v : V}, ks.length = vs.length → c ∉ ks → putK (ks.zip vs) c v = (ks ++ [c]).zip (vs ++ [v]) := by
  intro ks vs c v l h
  have e : ((ks.zip vs).any fun kv => decide (kv.1 = c)) = false := by
    rw [List.any_eq_false]
    intro p hp
    have := (List.of_mem_zip hp).1
    simp only [decide_eq_true_eq]
    intro z; rw [z] at this; exact h this
  unfold putK
  rw [e, List.zip_append l]
  rfl
section
variable {X : Cx} {RX : RXR} {W : WX} {kp : List Nat}
theorem ds_putO {s : Stmt} {i : Nat} {f k : Ev → R D} (h : PS X s (tAsg (tE X.K RX W f) (L2.gSub (tVar i) (tE X.K RX W k) rSetD))) : DS X RX W kp s (fPutO i f k) := by
  refine ps_imp h fun D σ H q => ?_
  obtain ⟨P, ρ, FE, S, q⟩ := q
  refine ⟨P, ρ, FE, S, ?_⟩
  unfold fPutO at q
  cases e : f ρ with
  | exc x ρ1 => simp only [e, RS.of] at q; exact fun cls dx P' H' FE' S' t r => q cls dx σ P' H' FE' S' t Kp.refl r
  | stk => simp only [e, RS.of] at q; exact q.elim
  | ok d ρ1 =>
    simp only [e, RS.of] at q
    intro v P1 H1 FE1 F1 S1 T1 t1
    unfold isSS at q
    split at q
    · rename_i d0 e0
      obtain ⟨vp, ev, _⟩ := S1.rel i _ e0
      refine ⟨vp, ev, _, ρ1, FE1, S1, ?_⟩
      cases e1 : k ρ1 with
      | exc x ρ2 => simp only [e1] at q; exact fun cls dx P' H' FE' S' t r => q cls dx σ P' H' FE' S' (t1.less'.trans t) Kp.refl r
      | stk => simp only [e1] at q; exact q.elim
      | ok ee ρ2 =>
        simp only [e1] at q
        intro w P2 H2 FE2 F2 S2 T2 t2
        obtain ⟨T1', dj⟩ := T1.step S1 t2
        rcases putO_cases (o := ρ2[i]?) (i := i) (e := ee) (d := d) (ρ := ρ2) with ⟨ks, xs, c, e3, ec, hn, hl, eq⟩ | eq
        rotate_left
        · rw [eq] at q; exact q.elim
        rw [eq] at q
        obtain ⟨p, vs, F', ev', h1, l, h2, h3, h4⟩ := slot_dcT S2 e3
        rw [ev] at ev'; cases ev'
        have nP := (S2.fin i p h2).2
        have nF' : ¬ F' p := fun z => (h3 p z).2 rfl
        have nF1 : ¬ F1 p := fun z => (T1'.own p z).2.2 ⟨i, h2⟩
        have hn : c ∉ ks := memK_false hn
        have ek := putK_new (v := v) l hn
        have r1 : Rls true X.K P2 (upd H2 p (.dT (putK (ks.zip vs) c v))) (xs ++ [d]) (vs ++ [v]) (fun b => F' b ∨ F1 b) :=
          rls_snoc (rls_upd h4 nP nF') (rl_upd T1'.rl nP nF1) (fun b z => .inl z) (fun b z => .inr z) fun b z w => (T1'.own b w).2.2 ⟨i, (h3 b z).1⟩
        obtain ⟨S3, t3⟩ := slot_write (F1 := F1) (o := .dT (putK (ks.zip vs) c v)) (d' := .dcT true (ks ++ [c]) (xs ++ [d])) S2 h1 .dT ev h2 T1'.own
          (.dcTO (F' := fun b => F' b ∨ F1 b) (by rw [upd_same]) ek (by simp [l]) (fun _ => .inl h2) (fun b z => z.elim (fun z => ⟨.inl (h3 b z).1, (h3 b z).2⟩) fun z => ⟨.inr z, fun w => nF1 (w ▸ z)⟩) r1)
        have hz : (ks.zip vs).length < sizeLine := by rw [List.length_zip, l, Nat.min_self, ← rls_len h4]; exact hl
        unfold keysT at ec
        split at ec
        · rename_i ds
          cases T2.rl with
          | tup eb pb rb =>
            rw [keysOf_rls rb ec] at eb
            refine ⟨p, _, rfl, .inr ⟨_, c, _, h1, rfl, eb, hz, rfl⟩, q σ P2 _ _ S3 (((t1.seq t2).less fun b z => ?_).trans t3) Kp.refl⟩
            exact z.elim (fun z => .inl (.inl z)) .inr
        · cases ec
    · exact q.elim
end
def posK {κ : Type} [DecidableEq κ] : List κ → κ → Option Nat
  | [], _ => none
  | k' :: ks, k => if k' = k then some 0 else (posK ks k).map (· + 1)
omit [TabC] in
theorem posK_val {κ : Type} [DecidableEq κ] : ∀ {ks : List κ} {vs : List V} {c : κ} {j : Nat} {v : V}, posK ks c = some j → vs[j]? = some v → valV (ks.zip vs) c = some v
  | [], _, _, _, _, h, _ => by simp [posK] at h
  | k' :: ks, [], _, _, _, _, h => by simp at h
  | k' :: ks, u :: vs, c, j, v, h, hv => by
    unfold posK at h
    by_cases e : k' = c
    · rw [if_pos e] at h; cases h
      simp at hv; subst hv
      exact valV_pos (p := (k', u)) e
    · rw [if_neg e] at h
      cases e2 : posK ks c with
      | none => rw [e2] at h; cases h
      | some i =>
        rw [e2] at h; cases h
        exact (valV_neg (p := (k', u)) e).trans (posK_val e2 (by simpa using hv))
def dTO1 (o : Option (Option D)) (k : List (List Key) → List D → RS) : RS := match o with
  | some (some (.dcT true ks xs)) => k ks xs
  | _ => .stk
omit [TabC] in
theorem dTO1_cases {o : Option (Option D)} {k : List (List Key) → List D → RS} : (∃ ks xs, o = some (some (.dcT true ks xs)) ∧ dTO1 o k = k ks xs) ∨ dTO1 o k = .stk := by
  unfold dTO1
  split
  · exact .inl ⟨_, _, rfl, rfl⟩
  · exact .inr rfl
def atK (ks : List (List Key)) (xs : List D) (o : Option D) (k : Nat → List D → RS) : RS := match o with
  | some e => (match keysT e with
    | some c => (match posK ks c with
      | some j => (match xs[j]? with
        | some (.lst true ys) => k j ys
        | _ => .stk)
      | none => .stk)
    | none => .stk)
  | none => .stk
omit [TabC] in
theorem atK_cases {ks : List (List Key)} {xs : List D} {o : Option D} {k : Nat → List D → RS} : (∃ e c j ys, o = some e ∧ keysT e = some c ∧ posK ks c = some j ∧ xs[j]? = some (.lst true ys) ∧ atK ks xs o k = k j ys) ∨ atK ks xs o k = .stk := by
  unfold atK
  split
  · rename_i e
    split
    · rename_i c ec
      split
      · rename_i j ej
        split
        · rename_i ys ey; exact .inl ⟨e, c, j, ys, rfl, ec, ej, ey, rfl⟩
        · exact .inr rfl
      · exact .inr rfl
    · exact .inr rfl
  · exact .inr rfl
def fAppD (i : Nat) (g1 : Ev → Option D) (f : Ev → R (List D)) : Ev → RS := fun ρ => dTO1 ρ[i]? fun ks xs => atK ks xs (g1 ρ) fun j ys =>
  RS.of (f (ρ.set i none)) fun ds ρ1 => oneI ds fun d => if ys.length < sizeLine then .nx (ρ1.set i (some (.dcT true ks (xs.set j (.lst true (ys ++ [d])))))) else .stk
section
variable {X : Cx} {RX : RXR} {W : WX} {kp : List Nat}
theorem ds_appD {s : Stmt} {i : Nat} {f : Ev → R (List D)} {g1 : Ev → Option D} (h : PS X s (tDrop (tBM X.K "list" rAppend (tOp (rIxU X.K) (tVar i) (tV X.K g1)) (tA X.K RX W f)))) : DS X RX W kp s (fAppD i g1 f) := by
  refine ps_imp h fun D σ H q => ?_
  obtain ⟨P, ρ, FE, S, q⟩ := q
  unfold fAppD at q
  rcases dTO1_cases (o := ρ[i]?) (k := fun ks xs => atK ks xs (g1 ρ) fun j ys => RS.of (f (ρ.set i none)) fun ds ρ1 => oneI ds fun d => if ys.length < sizeLine then .nx (ρ1.set i (some (.dcT true ks (xs.set j (.lst true (ys ++ [d])))))) else .stk) with ⟨ks, xs, e0, eq⟩ | eq
  rotate_left
  · rw [eq] at q; exact q.elim
  rw [eq] at q
  rcases atK_cases (ks := ks) (xs := xs) (o := g1 ρ) (k := fun j ys => RS.of (f (ρ.set i none)) fun ds ρ1 => oneI ds fun d => if ys.length < sizeLine then .nx (ρ1.set i (some (.dcT true ks (xs.set j (.lst true (ys ++ [d])))))) else .stk) with ⟨ee, c, j, ys, e1, ec, ek, ey, eq⟩ | eq
  rotate_left
  · rw [eq] at q; exact q.elim
  rw [eq] at q
  obtain ⟨vp, ev, _⟩ := S.rel i _ e0
  refine ⟨vp, ev, P, ρ, FE, S, ?_⟩
  rw [e1]
  intro w P2 H2 n2 r2
  unfold keysT at ec
  split at ec
  rotate_left
  · cases ec
  cases r2 with
  | tup eb pb rb =>
  rw [keysOf_rls rb ec] at eb
  have S2 := n2.stt S
  obtain ⟨p, vs, F', ev', h1, l, h2, h3, h4⟩ := slot_dcT S2 e0
  rw [ev] at ev'; cases ev'
  obtain ⟨v', G1, q1, q2, q3, q4⟩ := rls_atN h4 ey
  have hval := posK_val (ks := ks) ek q1
  refine .inr ⟨p, v', rfl, hval ▸ DGet.tR (.inl h1) eb, ?_⟩
  cases q3 with
  | lstO hh0 hf0 hs0 hr0 =>
    rename_i p1 ws F4
    refine ⟨.inl ⟨rfl, ws, .inl (.inl hh0)⟩, P2, ρ.set i none, _, S2.hide i, ?_⟩
    cases e2 : f (ρ.set i none) with
    | exc x ρ1 =>
      simp only [e2, RS.of] at q
      intro cls dx P' H' FE' S' t r
      exact q cls dx σ P' H' FE' S' ((n2.tr (U0 := U FE)).less'.trans (t.widen fun b ⟨k, z⟩ => ⟨k, z.2⟩)) Kp.refl r
    | stk => simp only [e2, RS.of] at q; exact q.elim
    | ok ds ρ1 =>
      simp only [e2, RS.of] at q
      intro us P3 H3 FE3 F3 S3 T3 t3
      rcases oneI_cases (ds := ds) (k := fun d => if ys.length < sizeLine then .nx (ρ1.set i (some (.dcT true ks (xs.set j (.lst true (ys ++ [d])))))) else .stk) with ⟨d, rfl, im, eq⟩ | eq
      rotate_left
      · rw [eq] at q; exact q.elim
      rw [eq] at q
      by_cases hl : ys.length < sizeLine
      rotate_left
      · rw [if_neg hl] at q; exact q.elim
      rw [if_pos hl] at q
      obtain ⟨u, rfl, ru⟩ := rls1 T3.rl
      obtain ⟨S4, t4, T4, keep⟩ := S2.unhide e0 S3 t3 T3.own
      have hF := hf0 rfl
      have e0' : (ρ1.set i (some (.dcT true ks xs)))[i]? = some (some (.dcT true ks xs)) := by
        have hlt : i < ρ1.length := by
          have l1 := S3.len
          have l2 := S.len
          have := (List.getElem?_eq_some_iff.mp e0).1
          omega
        rw [List.getElem?_set_self hlt]
      obtain ⟨p', vs', F3', ev3, h13, l3, h23, h33, h43⟩ := slot_dcT S4 e0'
      rw [ev] at ev3; cases ev3
      have hsame : H3 p = some (.dT (ks.zip vs)) := keep p _ h2 h1 (fun _ z => nomatch z)
      have evs : vs = vs' := by
        rw [hsame] at h13
        have e9 : ks.zip vs = ks.zip vs' := HO.dT.inj (Option.some.inj h13)
        have e8 := congrArg (List.map Prod.snd) e9
        rwa [List.map_snd_zip (by omega), List.map_snd_zip (by omega)] at e8
      subst evs
      obtain ⟨v'', G3, q13, q23, q33, q43⟩ := rls_atN h43 ey
      rw [q1] at q13; cases q13
      cases q33 with
      | lstO hh hf hs hr =>
        rename_i wsx F5
        have hF5 := hf rfl
        have i5 := h33 p1 (q23 p1 hF5)
        have nP := (S4.fin i p1 i5.1).2
        have ne : p ≠ p1 := fun z => i5.2 z.symm
        have nF5 : ¬ F5 p1 := fun z => (hs p1 z).2 rfl
        have same1 : H3 p1 = some (.lst ws) := keep p1 _ (h3 p1 (q2 p1 hF)).1 hh0 (fun _ z => nomatch z)
        rw [same1] at hh; cases hh
        have Tv : Rl true X.K P3 H3 d u E_ := rl_imm (F' := E_) ru im
        have r5 : Rl true X.K P3 (upd H3 p1 (.lst (ws ++ [u]))) (.lst true (ys ++ [d])) (.ref p1) G3 :=
          .lstO (F' := F5) upd_same (fun _ => hF5) hs (rls_snoc (rls_upd hr nP nF5) (rl_upd Tv nP fun z => z) (fun _ z => z) (fun _ z => z.elim) fun b z w => w.elim)
        have r6 : Rl true X.K P3 (upd H3 p1 (.lst (ws ++ [u]))) (.dcT true ks (xs.set j (.lst true (ys ++ [d])))) (.ref p) _ :=
          .dcTO (F' := F3') (by rw [upd_ne ne]; exact hsame) rfl l (fun _ => h23) h33 (q43 p1 _ _ hF5 nP r5)
        obtain ⟨S5, t5⟩ := slot_writeN (o := .lst (ws ++ [u])) S4 same1 .lst ev i5.1 r6
        rw [List.set_set] at S5
        exact ⟨p1, ws, u, rfl, rfl, same1, by rw [← rls_len hr]; exact hl, q σ P3 _ _ S5 (((n2.tr (U0 := U FE)).less'.trans t4.less').trans t5) Kp.refl⟩
end
section
variable {ρ : Ev} {i : Nat} {g1 : Ev → Option D} {f : Ev → R (List D)} {f' k' : Ev → R D}
omit [TabC]
@[simp] theorem ap_putO : fPutO i f' k' ρ = RS.of (f' ρ) fun d ρ1 => isSS ρ1[i]? (RS.of (k' ρ1) fun e ρ2 => putO ρ2[i]? i e d ρ2) := (rfl)
@[simp] theorem ap_appD : fAppD i g1 f ρ = dTO1 ρ[i]? fun ks xs => atK ks xs (g1 ρ) fun j ys => RS.of (f (ρ.set i none)) fun ds ρ1 => oneI ds fun d => if ys.length < sizeLine then .nx (ρ1.set i (some (.dcT true ks (xs.set j (.lst true (ys ++ [d])))))) else .stk := (rfl)
@[simp] theorem dTO1_s {ks : List (List Key)} {xs : List D} {k : List (List Key) → List D → RS} : dTO1 (some (some (.dcT true ks xs))) k = k ks xs := (rfl)
theorem atK_at {ks : List (List Key)} {xs : List D} {e : D} {c : List Key} {j : Nat} {ys : List D} {k : Nat → List D → RS} (h1 : keysT e = some c) (h2 : posK ks c = some j) (h3 : xs[j]? = some (.lst true ys)) : atK ks xs (some e) k = k j ys := by
  unfold atK
  simp only [h1, h2, h3]
theorem putO_at {ks : List (List Key)} {xs : List D} {e d : D} {c : List Key} (h1 : keysT e = some c) (h2 : memK c ks = false) (h3 : xs.length < sizeLine) : putO (some (some (.dcT true ks xs))) i e d ρ = .nx (ρ.set i (some (.dcT true (ks ++ [c]) (xs ++ [d])))) := by
  unfold putO
  simp only [h1]
  rw [if_pos ⟨h2, h3⟩]
end
abbrev rLenTR : List V → Hp → VK → Prop := fun xs H Q => ∃ (a : Addr) (kvs : List (List Key × V)), xs = [.ref a] ∧ Rd H a (.dT kvs) ∧ Q (.int ((kvs.length : Nat) : Int)) H
omit [TabC] in
theorem call_lenT {X : Cx} : CallR X (.builtin "len") rLenTR := by
  intro pins s σ H xs us Q I r h
  obtain ⟨p, kvs, rfl, hp, q⟩ := h
  obtain ⟨u, rfl, rx⟩ := vals1 r
  obtain rfl : u = .ref p := rx
  obtain ⟨z, hd, ys, rel, dd⟩ := dt_rd I.hok hp
  have hl : kvs.length = ys.length := Paired.length rel
  refine call_len_dictH hd dd (by rw [← hl]; rw [sizeLine_eq] at z; omega) ?_
  rw [← hl]
  exact ⟨.int ((kvs.length : Nat) : Int), H, I.tok _, ⟨_, rfl⟩, q⟩
def gLenT (ds : List D) : Option D := match ds with
  | [.dcT _ ks _] => some (.int ks.length)
  | _ => none
theorem vLenT {K : PySem.W.Frag} : VOpN K rLenTR gLenT := by
  intro P H ds vs x Q pin rs g h
  unfold gLenT at g
  split at g
  · obtain ⟨v, rfl, r⟩ := rls1 rs
    cases g
    obtain ⟨p, vs, rfl, e, l, r2⟩ := dcT_read r
    refine ⟨p, _, rfl, e, ?_⟩
    rw [List.length_zip, ← l, Nat.min_self]
    exact h _ P H E_ New.refl .int
  · cases g
omit [TabC] in
@[simp] theorem lenT_d {o : Bool} {ks : List (List Key)} {xs : List D} : gLenT [.dcT o ks xs] = some (.int ks.length) := (rfl)
end Hap
namespace Law
open PySem PySem.Spec PyProof.Rows L2 Hap M
def top (i : Nat) : Stmt := PySem.Challenge.pw_handsapart_k45_rows_apart.main.body.getD i (.Pass ⟨0, 0, 0, 0⟩)
abbrev s__law_take : Stmt := top 32
theorem sc__law_take : FnScope ["_law_bag_here", "_law_many", "_law_digit"] ["_law_bag_here", "_law_many"] (defScope s__law_take) := ⟨rfl, rfl, rfl, by decide +kernel, rfl, by decide +kernel, by decide +kernel⟩
abbrev s__law_house : Stmt := top 33
theorem sc__law_house : FnScope ["_law_bag_here", "_law_hands", "_law_many", "_law_few", "_law_letters", "_law_at", "_law_k", "_law_bits", "_law_hand"] ["_law_bag_here"] (defScope s__law_house) := ⟨rfl, rfl, rfl, by decide +kernel, rfl, by decide +kernel, by decide +kernel⟩
abbrev s__law_bag : Stmt := top 31
theorem sc__law_bag : FnScope ["_law_cell_here"] ["_law_cell_here"] (defScope s__law_bag) := ⟨rfl, rfl, rfl, by decide +kernel, rfl, by decide +kernel, by decide +kernel⟩
abbrev s__law_cell : Stmt := top 30
theorem sc__law_cell : FnScope ["_law_script", "_law_k"] ["_law_script", "_law_k"] (defScope s__law_cell) := ⟨rfl, rfl, rfl, by decide +kernel, rfl, by decide +kernel, by decide +kernel⟩
abbrev s__law_drawn_table : Stmt := top 35
theorem sc__law_drawn_table : FnScope ["_law_bag_here", "_law_house_here", "_law_hands", "_law_sizes", "_law_some", "_law_size", "_law_longer", "_law_part", "_law_rules", "_law_letter", "_law_owned", "_law_rule", "_law_key", "_law_hand", "_law_first", "_law_table", "_law_follows", "_law_k", "_law_behind", "_law_due", "_law_number"] ["_law_bag_here", "_law_house_here"] (defScope s__law_drawn_table) := ⟨rfl, rfl, rfl, by decide +kernel, rfl, by decide +kernel, by decide +kernel⟩
abbrev s__law_machine : Stmt := top 34
theorem sc__law_machine : FnScope ["_law_bag_here", "_law_house_here", "_law_most", "_law_rooms", "_law_moves", "_law_room", "_law_line", "_law_letter", "_law_bits"] ["_law_bag_here", "_law_house_here", "_law_most"] (defScope s__law_machine) := ⟨rfl, rfl, rfl, by decide +kernel, rfl, by decide +kernel, by decide +kernel⟩
abbrev s__law_apart : Stmt := top 36
theorem sc__law_apart : FnScope ["_law_house_here", "_law_machine_here", "_law_table", "_law_letters", "_law_known", "_law_now", "_law_row", "_law_room", "_law_entry", "_law_longer", "_law_k", "_law_behind", "_law_letter", "_law_owned"] ["_law_house_here", "_law_machine_here", "_law_table"] (defScope s__law_apart) := ⟨rfl, rfl, rfl, by decide +kernel, rfl, by decide +kernel, by decide +kernel⟩
abbrev s_is_whole : Stmt := top 10
theorem sc_is_whole : FnScope ["thing"] ["thing"] (defScope s_is_whole) := ⟨rfl, rfl, rfl, by decide +kernel, rfl, by decide +kernel, by decide +kernel⟩
abbrev s_is_sign : Stmt := top 12
theorem sc_is_sign : FnScope ["thing"] ["thing"] (defScope s_is_sign) := ⟨rfl, rfl, rfl, by decide +kernel, rfl, by decide +kernel, by decide +kernel⟩
abbrev s_is_rising : Stmt := top 11
theorem sc_is_rising : FnScope ["things", "many", "ahead", "thing"] ["things", "many"] (defScope s_is_rising) := ⟨rfl, rfl, rfl, by decide +kernel, rfl, by decide +kernel, by decide +kernel⟩
abbrev s_is_entry : Stmt := top 13
theorem sc_is_entry : FnScope ["thing", "hands"] ["thing", "hands"] (defScope s_is_entry) := ⟨rfl, rfl, rfl, by decide +kernel, rfl, by decide +kernel, by decide +kernel⟩
abbrev s_is_house : Stmt := top 15
theorem sc_is_house : FnScope ["thing", "hands", "letters", "ahead", "entry"] ["thing"] (defScope s_is_house) := ⟨rfl, rfl, rfl, by decide +kernel, rfl, by decide +kernel, by decide +kernel⟩
abbrev s_look_house : Stmt := top 16
theorem sc_look_house : FnScope ["thing"] ["thing"] (defScope s_look_house) := ⟨rfl, rfl, rfl, by decide +kernel, rfl, by decide +kernel, by decide +kernel⟩
abbrev s_is_line : Stmt := top 19
theorem sc_is_line : FnScope ["thing", "letters", "rooms", "room"] ["thing", "letters", "rooms"] (defScope s_is_line) := ⟨rfl, rfl, rfl, by decide +kernel, rfl, by decide +kernel, by decide +kernel⟩
abbrev s_is_machine : Stmt := top 20
theorem sc_is_machine : FnScope ["house", "thing", "rooms", "line"] ["house", "thing"] (defScope s_is_machine) := ⟨rfl, rfl, rfl, by decide +kernel, rfl, by decide +kernel, by decide +kernel⟩
abbrev s_look_machine : Stmt := top 21
theorem sc_look_machine : FnScope ["house", "thing"] ["house", "thing"] (defScope s_look_machine) := ⟨rfl, rfl, rfl, by decide +kernel, rfl, by decide +kernel, by decide +kernel⟩
abbrev s_is_entry_tables : Stmt := top 24
theorem sc_is_entry_tables : FnScope ["house", "thing", "many", "memories", "good", "follows", "number"] ["house", "thing", "many"] (defScope s_is_entry_tables) := ⟨rfl, rfl, rfl, by decide +kernel, rfl, by decide +kernel, by decide +kernel⟩
abbrev s_is_done_apart : Stmt := top 26
theorem sc_is_done_apart : FnScope ["house", "table", "k", "own", "seen", "memories", "good", "follows", "behind", "hand", "key", "due"] ["house", "table", "k"] (defScope s_is_done_apart) := ⟨rfl, rfl, rfl, by decide +kernel, rfl, by decide +kernel, by decide +kernel⟩
abbrev s_is_table_of : Stmt := top 27
theorem sc_is_table_of : FnScope ["house", "thing", "unlike", "entry", "k"] ["house", "thing"] (defScope s_is_table_of) := ⟨rfl, rfl, rfl, by decide +kernel, rfl, by decide +kernel, by decide +kernel⟩
abbrev s_row_apart : Stmt := top 28
theorem sc_row_apart : FnScope ["house", "machine", "table", "moves", "good", "met", "waiting", "room", "entry", "row", "k", "letter", "behind"] ["house", "machine", "table"] (defScope s_row_apart) := ⟨rfl, rfl, rfl, by decide +kernel, rfl, by decide +kernel, by decide +kernel⟩
abbrev s_law : Stmt := top 37
theorem sc_law : FnScope ["_law_script", "_law_house_here", "_law_table", "_law_bag_here", "_law_kin", "_law_machine_here", "_law_moves", "_law_rooms", "_law_kept", "_law_due", "_law_found", "_law_memories", "_law_good", "_law_follows", "_law_k", "_law_line"] ["_law_script"] (defScope s_law) := ⟨rfl, rfl, rfl, by decide +kernel, rfl, by decide +kernel, by decide +kernel⟩
def l__law_drawn_table_1 : Ev → RS :=
  (fSetL 18 (fVar 20) (fVar 13))
def l__law_drawn_table_2 : Ev → RS :=
  (fSeq (fAsg (fOpN gList (fCons (fVar 7) fNil)) (gN 18))
    (fSeq (fAsg (fOp2 gIxI (fI (vOp2 gIx (vVar 8) (vVar 17))) (fOpN gTuple (fCons (fLc (fIt itemsL (fVar 10)) (gN 13) fYes (fI (vOp2 gIx (vVar 7) (vVar 13))) [13]) fNil))) (gN 19))
    (fSeq (fFor (fItN zipL (fCons (fVar 10) (fCons (fVar 19) fNil))) (gT 2 (gsC (gN 13) (gsC (gN 20) gsN))) l__law_drawn_table_1)
    (fAppend 16 (fCons (fMeth isL gIndex (fVar 4) (fCons (fOpNV gTuple (vCons (vVar 18) vNil)) fNil)) fNil)))))
def l__law_drawn_table_3 : Ev → RS :=
  (fSeq (fAsg (fLst fNil) (gN 16))
    (fSeq (fFor (fItN enumL (fCons (fI (vOp2 gIx (vVar 1) (vK (.int 1)))) fNil)) (gT 2 (gsC (gN 17) (gsC (gT 2 (gsC (gN 9) (gsC (gN 10) gsN))) gsN))) l__law_drawn_table_2)
    (fAppend 15 (fCons (fTup (fCons (fVar 7) (fCons (fOp2V gEq (fCallIO 0 2 m__law_take (fCons (fK (.int 2)) fNil)) (vK (.int 1))) (fCons (fOpNV gTuple (vCons (vVar 16) vNil)) fNil)))) fNil))))
def l__law_drawn_table_4 : Ev → RS :=
  (fAppD 11 (vVar 12) (fCons (fCallIO 0 2 m__law_take (fCons (fI (vOp2 gIx (vVar 3) (vVar 13))) fNil)) fNil))
def l__law_drawn_table_5 : Ev → RS :=
  (fSeq (fAsg (fOpN gTuple (fCons (fLc (fIt itemsL (fVar 10)) (gN 13) fYes (fI (vOp2 gIx (vVar 7) (vVar 13))) [13]) fNil)) (gN 12))
    (fIf (fTv (vOp2 gNin (vVar 12) (vVar 11)))
    (fSeq (fPutO 11 (fLst fNil) (fVar 12))
    (fFor (fIt itemsL (fVar 10)) (gN 13) l__law_drawn_table_4))
    fNext))
def l__law_drawn_table_6 : Ev → RS :=
  (fSeq (fAsg fDNewT (gN 11))
    (fSeq (fFor (fIt itemsL (fVar 4)) (gN 7) l__law_drawn_table_5)
    (fAppend 8 (fCons (fVar 11) fNil))))
def l__law_drawn_table_7 : Ev → RS :=
  (fExtend 6 (fCons (fLc (fItN rng1 (fCons (fVar 5) fNil)) (gN 20) fYes (fI (vOp2 gAddT (vVar 7) (vTup (vCons (vVar 20) vNil)))) [20]) fNil))
def l__law_drawn_table_8 : Ev → RS :=
  (fSeq (fAsg (fLst fNil) (gN 6))
    (fSeq (fFor (fIt itemsL (fVar 4)) (gN 7) l__law_drawn_table_7)
    (fAsg (fVar 6) (gN 4))))
def b__law_drawn_table : Ev → RS :=
  (fSeq (fAsg (fI (vOp2 gIx (vVar 1) (vK (.int 0)))) (gN 2))
    (fSeq (fAsg (fLc (fItN rng1 (fCons (fVar 2) fNil)) (gN 13) fYes (fOp2 gAdd (fK (.int 1)) (fCallIO 0 2 m__law_take (fCons (fK (.int 3)) fNil))) [13]) (gN 3))
    (fSeq (fAsg (fLst (fCons (fTup fNil) fNil)) (gN 4))
    (fSeq (fFor (fIt itemsL (fVar 3)) (gN 5) l__law_drawn_table_8)
    (fSeq (fAsg (fLst fNil) (gN 8))
    (fSeq (fFor (fIt itemsL (fI (vOp2 gIx (vVar 1) (vK (.int 1))))) (gT 2 (gsC (gN 9) (gsC (gN 10) gsN))) l__law_drawn_table_6)
    (fSeq (fAsg (fCallIO 0 2 m__law_take (fCons (fI (vOpN gLen (vCons (vVar 4) vNil))) fNil)) (gN 14))
    (fSeq (fAsg (fOp2 gAdd (fSl (fVar 4) (fO (fVar 14)) fO0) (fSl (fVar 4) fO0 (fO (fVar 14)))) (gN 4))
    (fSeq (fAsg (fLst fNil) (gN 15))
    (fSeq (fFor (fIt itemsL (fVar 4)) (gN 7) l__law_drawn_table_3)
    (fRet (fMv 15))))))))))))
def m__law_drawn_table : Fn := semOf (true :: List.replicate 1 false) 21 b__law_drawn_table
def l__law_machine_1 : Ev → RS :=
  (fAppend 6 (fCons (fCallIO 0 2 m__law_take (fCons (fVar 3) fNil)) fNil))
def l__law_machine_2 : Ev → RS :=
  (fSeq (fAsg (fLst fNil) (gN 6))
    (fSeq (fFor (fIt itemsL (fI (vOp2 gIx (vVar 1) (vK (.int 1))))) (gN 7) l__law_machine_1)
    (fAppend 4 (fConsL 6 fNil))))
def b__law_machine : Ev → RS :=
  (fSeq (fAsg (fOp2 gAdd (fK (.int 1)) (fCallIO 0 2 m__law_take (fCons (fVar 2) fNil))) (gN 3))
    (fSeq (fAsg (fLst fNil) (gN 4))
    (fSeq (fFor (fItN rng1 (fCons (fVar 3) fNil)) (gN 5) l__law_machine_2)
    (fSeq (fAsg (fCallIO 0 2 m__law_take (fCons (fI (vOp2 gShl (vK (.int 1)) (vVar 3))) fNil)) (gN 8))
    (fRet (fTup (fConsL 4 (fCons (fLc (fItN rng1 (fCons (fVar 3) fNil)) (gN 5) (fTv (vOp2 gEq (vOp2 gBand (vOp2 gShr (vVar 8) (vVar 5)) (vK (.int 1))) (vK (.int 1)))) (fVar 5) [5]) fNil))))))))
def m__law_machine : Fn := semOf (true :: List.replicate 2 false) 9 b__law_machine
def l__law_apart_1 : Ev → RS :=
  (fSeq (fAsg (fTup (fCons (fI (vOp2 gIx (vOp2 gIx (vOp2 gIx (vVar 1) (vK (.int 0))) (vVar 7)) (vVar 10))) (fCons (fI (vOp2 gIx (vOp2 gIx (vOp2 gIx (vVar 2) (vVar 8)) (vK (.int 2))) (vVar 10))) fNil))) (gN 11))
    (fIf (fTv (vOp2 gNin (vVar 11) (vVar 4)))
    (fSeq (fPutD 4 (fK (.bl true)) (fVar 11))
    (fAppend 9 (fCons (fTup (fCons (fI (vOp2 gAdd (vVar 6) (vOp2 gIx (vVar 3) (vVar 10)))) (fCons (fI (vOp2 gIx (vVar 11) (vK (.int 0)))) (fCons (fI (vOp2 gIx (vVar 11) (vK (.int 1)))) fNil)))) fNil)))
    fNext))
def l__law_apart_2 : Ev → RS :=
  (fFor (fItN rng1 (fCons (fI (vOpN gLen (vCons (vVar 3) vNil))) fNil)) (gN 10) l__law_apart_1)
def l__law_apart_3 : Ev → RS :=
  (fIf (fTv (vOp2 gNe (vOp2 gIn (vVar 7) (vOp2 gIx (vVar 1) (vK (.int 1)))) (vOp2 gIx (vOp2 gIx (vVar 2) (vVar 8)) (vK (.int 1)))))
    (fRet (fMv 6))
    fNext)
def l__law_apart_4 : Ev → RS :=
  (fSeq (fFor (fIt itemsL (fVar 5)) (gT 3 (gsC (gN 6) (gsC (gN 7) (gsC (gN 8) gsN)))) l__law_apart_3)
    (fSeq (fAsg (fLst fNil) (gN 9))
    (fSeq (fFor (fIt itemsL (fVar 5)) (gT 3 (gsC (gN 6) (gsC (gN 7) (gsC (gN 8) gsN)))) l__law_apart_2)
    (fAsg (fVar 9) (gN 5)))))
def b__law_apart : Ev → RS :=
  (fSeq (fAsg (fLc (fIt itemsL (fI (vOp2 gIx (vVar 0) (vK (.int 1))))) (gT 2 (gsC (gN 12) (gsC (gN 13) gsN))) fYes (fVar 12) [12, 13]) (gN 3))
    (fSeq (fAsg (fD1T (fTup (fCons (fK (.int 0)) (fCons (fK (.int 0)) fNil))) (fK (.bl true))) (gN 4))
    (fSeq (fAsg (fLst (fCons (fTup (fCons (fK (.str "")) (fCons (fK (.int 0)) (fCons (fK (.int 0)) fNil)))) fNil)) (gN 5))
    (fSeq (fWhile fuel (fTv (vOp2 gNe (vVar 5) (vLst vNil))) l__law_apart_4)
    (fRet (fK .non))))))
def m__law_apart : Fn := semOf (List.replicate 3 false) 14 b__law_apart
def b_is_line : Ev → RS :=
  (fSeq (fIf (fOr (fNot (fTv (vOpN gIsi (vCons (vVar 0) (vCons (vK (.gv (.ty "list"))) vNil))))) (fTv (vOp2 gNe (vOpN gLen (vCons (vVar 0) vNil)) (vVar 1))))
    (fRet (fK (.bl false)))
    fNext)
    (fRet (fOpN gAll (fCons (fLc (fIt itemsL (fVar 0)) (gN 3) fYes (fAndD (fCall 1 m_is_whole (fCons (fVar 3) fNil)) (fChain gLe gLt (fK (.int 0)) (fVar 3) (fVar 2))) [3]) fNil))))
def m_is_line : Fn := semOf (List.replicate 3 false) 4 b_is_line
def b_is_machine : Ev → RS :=
  (fSeq (fDrop (fCall 1 m_look_house (fCons (fVar 0) fNil)))
    (fSeq (fIf (fOr (fNot (fTv (vOpN gIsi (vCons (vVar 1) (vCons (vK (.gv (.ty "tuple"))) vNil))))) (fOr (fTv (vOp2 gNe (vOpN gLen (vCons (vVar 1) vNil)) (vK (.int 2)))) (fNot (fTv (vOpN gIsi (vCons (vOp2 gIx (vVar 1) (vK (.int 0))) (vCons (vK (.gv (.ty "list"))) vNil)))))))
    (fRet (fK (.bl false)))
    fNext)
    (fSeq (fAsg (fI (vOpN gLen (vCons (vOp2 gIx (vVar 1) (vK (.int 0))) vNil))) (gN 2))
    (fSeq (fIf (fNot (fTb (fChain gLe gLe (fK (.int 1)) (fVar 2) (fK (.int 30)))))
    (fRet (fK (.bl false)))
    fNext)
    (fRet (fAndD (fOpN gAll (fCons (fLc (fIt itemsL (fI (vOp2 gIx (vVar 1) (vK (.int 0))))) (gN 3) fYes (fCall 3 m_is_line (fCons (fVar 3) (fCons (fI (vOpN gLen (vCons (vOp2 gIx (vVar 0) (vK (.int 1))) vNil))) (fCons (fVar 2) fNil)))) [3]) fNil)) (fCall 2 m_is_rising (fCons (fI (vOp2 gIx (vVar 1) (vK (.int 1)))) (fCons (fVar 2) fNil)))))))))
def m_is_machine : Fn := semOf (List.replicate 2 false) 4 b_is_machine
def b_look_machine : Ev → RS :=
  (fIf (fNot (fTb (fCall 2 m_is_machine (fCons (fVar 0) (fCons (fVar 1) fNil)))))
    fStk
    fNext)
def m_look_machine : Fn := semOf (List.replicate 2 false) 2 b_look_machine
def b_is_entry_tables : Ev → RS :=
  (fSeq (fIf (fOr (fNot (fTv (vOpN gIsi (vCons (vVar 1) (vCons (vK (.gv (.ty "tuple"))) vNil))))) (fOr (fTv (vOp2 gNe (vOpN gLen (vCons (vVar 1) vNil)) (vK (.int 3)))) (fNot (fTv (vOpN gIsi (vCons (vOp2 gIx (vVar 1) (vK (.int 1))) (vCons (vK (.gv (.ty "bool"))) vNil)))))))
    (fRet (fK (.bl false)))
    fNext)
    (fSeq (fAsg (fVar 1) (gT 3 (gsC (gN 3) (gsC (gN 4) (gsC (gN 5) gsN)))))
    (fSeq (fIf (fOr (fNot (fTv (vOpN gIsi (vCons (vVar 3) (vCons (vK (.gv (.ty "tuple"))) vNil))))) (fTv (vOp2 gNe (vOpN gLen (vCons (vVar 3) vNil)) (vOp2 gIx (vVar 0) (vK (.int 0))))))
    (fRet (fK (.bl false)))
    fNext)
    (fSeq (fIf (fOr (fNot (fTv (vOpN gIsi (vCons (vVar 5) (vCons (vK (.gv (.ty "tuple"))) vNil))))) (fTv (vOp2 gNe (vOpN gLen (vCons (vVar 5) vNil)) (vOpN gLen (vCons (vOp2 gIx (vVar 0) (vK (.int 1))) vNil)))))
    (fRet (fK (.bl false)))
    fNext)
    (fSeq (fIf (fNot (fTb (fOpN gAll (fCons (fLc (fIt itemsT (fVar 3)) (gN 6) fYes (fAndD (fCall 1 m_is_whole (fCons (fVar 6) fNil)) (fI (vOp2 gGe (vVar 6) (vK (.int 0))))) [6]) fNil))))
    (fRet (fK (.bl false)))
    fNext)
    (fRet (fOpN gAll (fCons (fLc (fIt itemsT (fVar 5)) (gN 6) fYes (fAndD (fCall 1 m_is_whole (fCons (fVar 6) fNil)) (fChain gLe gLt (fK (.int 0)) (fVar 6) (fVar 2))) [6]) fNil))))))))
def m_is_entry_tables : Fn := semOf (List.replicate 3 false) 7 b_is_entry_tables
def l_is_done_apart_1 : Ev → RS :=
  (fIf (fAnd (fTv (vOp2 gNin (vVar 9) (vVar 3))) (fTv (vOp2 gNe (vOp2 gIx (vVar 8) (vVar 9)) (vOp2 gIx (vVar 5) (vVar 9)))))
    (fRet (fK (.bl false)))
    fNext)
def l_is_done_apart_2 : Ev → RS :=
  (fSeq (fAsg (fI (vOp2 gIx (vOp2 gIx (vVar 1) (vOp2 gIx (vVar 7) (vVar 2))) (vK (.int 0)))) (gN 8))
    (fSeq (fFor (fItN rng1 (fCons (fI (vOp2 gIx (vVar 0) (vK (.int 0)))) fNil)) (gN 9) l_is_done_apart_1)
    (fSeq (fAsg (fOpN gTuple (fCons (fLc (fIt itemsL (fVar 3)) (gN 9) fYes (fI (vOp2 gIx (vVar 5) (vVar 9))) [9]) fNil)) (gN 10))
    (fSeq (fAsg (fOpN gTuple (fCons (fLc (fIt itemsL (fVar 3)) (gN 9) fYes (fI (vOp2 gIx (vVar 8) (vVar 9))) [9]) fNil)) (gN 11))
    (fSeq (fIf (fAnd (fTv (vOp2 gIn (vVar 10) (vVar 4))) (fTv (vOp2 gNe (vOp2 gIx (vVar 4) (vVar 10)) (vVar 11))))
    (fRet (fK (.bl false)))
    fNext)
    (fPutD 4 (fVar 11) (fVar 10)))))))
def b_is_done_apart : Ev → RS :=
  (fSeq (fAsg (fI (vOp2 gIx (vOp2 gIx (vOp2 gIx (vVar 0) (vK (.int 1))) (vVar 2)) (vK (.int 1)))) (gN 3))
    (fSeq (fAsg fDNewT (gN 4))
    (fSeq (fFor (fIt itemsL (fVar 1)) (gT 3 (gsC (gN 5) (gsC (gN 6) (gsC (gN 7) gsN)))) l_is_done_apart_2)
    (fRet (fK (.bl true))))))
def m_is_done_apart : Fn := semOf (List.replicate 3 false) 12 b_is_done_apart
def l_is_table_of_1 : Ev → RS :=
  (fPutD 2 (fK (.bl true)) (fI (vOp2 gIx (vVar 3) (vK (.int 0)))))
def b_is_table_of : Ev → RS :=
  (fSeq (fIf (fOr (fNot (fTv (vOpN gIsi (vCons (vVar 1) (vCons (vK (.gv (.ty "list"))) vNil))))) (fNot (fTb (fChain gLe gLe (fK (.int 1)) (fI (vOpN gLen (vCons (vVar 1) vNil))) (fK (.int 600))))))
    (fRet (fK (.bl false)))
    fNext)
    (fSeq (fIf (fNot (fTb (fOpN gAll (fCons (fLc (fIt itemsL (fVar 1)) (gN 3) fYes (fCall 3 m_is_entry_tables (fCons (fVar 0) (fCons (fVar 3) (fCons (fI (vOpN gLen (vCons (vVar 1) vNil))) fNil)))) [3]) fNil))))
    (fRet (fK (.bl false)))
    fNext)
    (fSeq (fAsg fDNewT (gN 2))
    (fSeq (fFor (fIt itemsL (fVar 1)) (gN 3) l_is_table_of_1)
    (fSeq (fIf (fTv (vOp2 gLt (vOpN gLenT (vCons (vVar 2) vNil)) (vOpN gLen (vCons (vVar 1) vNil))))
    (fRet (fK (.bl false)))
    fNext)
    (fRet (fOpN gAll (fCons (fLc (fItN rng1 (fCons (fI (vOpN gLen (vCons (vOp2 gIx (vVar 0) (vK (.int 1))) vNil))) fNil)) (gN 4) fYes (fCall 3 m_is_done_apart (fCons (fVar 0) (fCons (fVar 1) (fCons (fVar 4) fNil)))) [4]) fNil))))))))
def m_is_table_of : Fn := semOf (List.replicate 2 false) 5 b_is_table_of
def l_row_apart_1 : Ev → RS :=
  (fSeq (fAsg (fTup (fCons (fI (vOp2 gIx (vOp2 gIx (vVar 3) (vVar 7)) (vVar 10))) (fCons (fI (vOp2 gIx (vOp2 gIx (vOp2 gIx (vVar 2) (vVar 8)) (vK (.int 2))) (vVar 10))) fNil))) (gN 12))
    (fIf (fTv (vOp2 gNin (vVar 12) (vVar 5)))
    (fSeq (fPutD 5 (fK (.bl true)) (fVar 12))
    (fAppend 6 (fCons (fTup (fCons (fI (vOp2 gIx (vVar 12) (vK (.int 0)))) (fCons (fI (vOp2 gIx (vVar 12) (vK (.int 1)))) (fCons (fI (vOp2 gAdd (vVar 9) (vOp2 gIx (vVar 11) (vK (.int 0))))) fNil)))) fNil)))
    fNext))
def l_row_apart_2 : Ev → RS :=
  (fSeq (fAsg (fPopA 6 (fCons (fK (.int 0)) fNil)) (gT 3 (gsC (gN 7) (gsC (gN 8) (gsC (gN 9) gsN)))))
    (fSeq (fIf (fTv (vOp2 gNe (vOp2 gIn (vVar 7) (vVar 4)) (vOp2 gIx (vOp2 gIx (vVar 2) (vVar 8)) (vK (.int 1)))))
    (fRet (fMv 9))
    fNext)
    (fFor (fItN enumL (fCons (fI (vOp2 gIx (vVar 0) (vK (.int 1)))) fNil)) (gT 2 (gsC (gN 10) (gsC (gN 11) gsN))) l_row_apart_1)))
def b_row_apart : Ev → RS :=
  (fSeq (fDrop (fCall 1 m_look_house (fCons (fVar 0) fNil)))
    (fSeq (fDrop (fCall 2 m_look_machine (fCons (fVar 0) (fCons (fVar 1) fNil))))
    (fSeq (fIf (fNot (fTb (fCall 2 m_is_table_of (fCons (fVar 0) (fCons (fVar 2) fNil)))))
    fStk
    fNext)
    (fSeq (fAsg (fVar 1) (gT 2 (gsC (gN 3) (gsC (gN 4) gsN))))
    (fSeq (fAsg (fD1T (fTup (fCons (fK (.int 0)) (fCons (fK (.int 0)) fNil))) (fK (.bl true))) (gN 5))
    (fSeq (fAsg (fLst (fCons (fTup (fCons (fK (.int 0)) (fCons (fK (.int 0)) (fCons (fK (.str "")) fNil)))) fNil)) (gN 6))
    (fSeq (fWhile fuel (fTv (vOp2 gGt (vOpN gLen (vCons (vVar 6) vNil)) (vK (.int 0)))) l_row_apart_2)
    (fRet (fK .non)))))))))
def m_row_apart : Fn := semOf (List.replicate 3 false) 13 b_row_apart
def b_law : Ev → RS :=
  (fSeq (fAsg (fCallF 1 m__law_house (fCons (fCall 1 m__law_bag (fCons (fCall 2 m__law_cell (fCons (fVar 0) (fCons (fK (.int 0)) fNil))) fNil)) fNil)) (gN 1))
    (fSeq (fAsg (fCallF 2 m__law_drawn_table (fCons (fCall 1 m__law_bag (fCons (fCall 2 m__law_cell (fCons (fVar 0) (fCons (fK (.int 1)) fNil))) fNil)) (fCons (fVar 1) fNil))) (gN 2))
    (fSeq (fAsg (fCall 1 m__law_bag (fCons (fCall 2 m__law_cell (fCons (fVar 0) (fCons (fK (.int 2)) fNil))) fNil)) (gN 3))
    (fSeq (fAsg (fCallIO 3 2 m__law_take (fCons (fK (.int 2)) fNil)) (gN 4))
    (fSeq (fAsg (fFz (fCallIO 3 3 m__law_machine (fCons (fVar 1) (fCons (fK (.int 6)) fNil)))) (gN 5))
    (fSeq (fIf (fAnd (fTv (vOp2 gEq (vVar 4) (vK (.int 1)))) (fTv (vOp2 gLt (vOpN gLen (vCons (vVar 2) vNil)) (vK (.int 31)))))
    (fSeq (fAsg (fLc (fIt itemsL (fVar 2)) (gT 3 (gsC (gN 11) (gsC (gN 12) (gsC (gN 13) gsN)))) fYes (fOpN gList (fCons (fVar 13) fNil)) [11, 12, 13]) (gN 6))
    (fSeq (fAsg (fLc (fItN rng1 (fCons (fI (vOpN gLen (vCons (vVar 2) vNil))) fNil)) (gN 14) (fTv (vOp2 gIx (vOp2 gIx (vVar 2) (vVar 14)) (vK (.int 1)))) (fVar 14) [14]) (gN 7))
    (fSeq (fIf (fAnd (fTv (vOp2 gNe (vVar 7) (vLst vNil))) (fTb (fOp2V gEq (fCallIO 3 2 m__law_take (fCons (fK (.int 2)) fNil)) (vK (.int 1)))))
    (fDrop (fPopA 7 (fCons (fCallIO 3 2 m__law_take (fCons (fI (vOpN gLen (vCons (vVar 7) vNil))) fNil)) fNil)))
    fNext)
    (fAsg (fFz (fTup (fCons (fVar 6) (fCons (fVar 7) fNil)))) (gN 5)))))
    fNext)
    (fSeq (fAsg (fTup (fCons (fOpN gList (fCons (fVar 2) fNil)) (fCons (fTup (fCons (fLc (fIt itemsL (fI (vOp2 gIx (vVar 5) (vK (.int 0))))) (gN 15) fYes (fOpN gList (fCons (fVar 15) fNil)) [15]) (fCons (fOpN gList (fCons (fI (vOp2 gIx (vVar 5) (vK (.int 1)))) fNil)) fNil))) fNil))) (gN 8))
    (fSeq (fAsg (fCall 3 m__law_apart (fCons (fVar 1) (fCons (fVar 5) (fCons (fVar 2) fNil)))) (gN 9))
    (fSeq (fAsg (fCall 3 m_row_apart (fCons (fVar 1) (fCons (fVar 5) (fCons (fVar 2) fNil)))) (gN 10))
    (fSeq (fIf (fOr (fAnd (fTv (vOp2 gIs' (vVar 9) (vK .non))) (fTv (vOp2 gIsn' (vVar 10) (vK .non)))) (fAnd (fTv (vOp2 gIsn' (vVar 9) (vK .non))) (fOr (fNot (fTv (vOpN gIsi (vCons (vVar 10) (vCons (vK (.gv (.ty "str"))) vNil))))) (fTv (vOp2 gNe (vVar 10) (vVar 9))))))
    (fRet (fK (.bl false)))
    fNext)
    (fRet (fI (vOp2 gEq (vTup (vCons (vVar 2) (vCons (vVar 5) vNil))) (vVar 8))))))))))))))
def m_law : Fn := semOf (List.replicate 1 false) 16 b_law
structure Bi (mg : Str → Option Value) : Prop where
  abs : mg "abs" = none
  all : mg "all" = none
  bool : mg "bool" = none
  enumerate : mg "enumerate" = none
  int : mg "int" = none
  isinstance : mg "isinstance" = none
  len : mg "len" = none
  list : mg "list" = none
  range : mg "range" = none
  str : mg "str" = none
  tuple : mg "tuple" = none
  zip : mg "zip" = none
  c_LETTERS : ∃ t, mg "LETTERS" = some (.str "abcdefghijklmnopqrstuvwxyz" t)
  c_FEWEST_HANDS : ∃ t, mg "FEWEST_HANDS" = some (.int 2 t)
  c_MOST_HANDS : ∃ t, mg "MOST_HANDS" = some (.int 4 t)
  c_MOST_LETTERS : ∃ t, mg "MOST_LETTERS" = some (.int 6 t)
  c_MOST_ROOMS : ∃ t, mg "MOST_ROOMS" = some (.int 30 t)
  c_MOST : ∃ t, mg "MOST" = some (.int 600 t)
section
variable {P : Program} {w : World} {K : PySem.W.Frag} {mg : Str → Option Value} {base : Heap} {RX : RXR}
theorem ok__law_take {f : Addr} {fd : FuncData} (F : Fun K "_law_take" "_law_take" s__law_take f fd) (hm : mg "_law_take" = some (.ref f)) (B : Bi mg)  : Cal P w K mg base RX "_law_take" 1 (true :: List.replicate 1 false) m__law_take := by
  refine ⟨f, fd, ["_law_bag_here", "_law_many"], fn_ok (k := 0) F sc__law_take rfl rfl fun cdv A outer s H E hr => ?_, hm, F.kp, F.binds fun _ _ _ _ _ _ us hl => match us, hl with | [_, _], _ => rfl⟩
  unfold b__law_take
  exact (dss_cons (ds_if (dt_cmpV (op_eqU (room64 hr)) vEq (dv_ixU (room1 hr) (dv_var (pv 0)) (dv_k pe_int fun _ _ => .int) (fun _ _ => rfl)) (dv_k pe_int fun _ _ => .int) (nomark _))
      (dss_cons (ds_set (ps_set (i := 2) sc__law_take.nd rfl (by first | exact Or.inl rfl | exact Or.inr rfl) (de_ofV (dv_op op_modN vMod (dv_ixU (room1 hr) (dv_var (pv 0)) (dv_k pe_int fun _ _ => .int) (fun _ _ => rfl)) (dv_var (pv 1))))) (by decide))
      (dss_cons (ds_setL (ps_asg (de_ofV (dv_op op_fdivX vFdiv (dv_ixU (room1 hr) (dv_var (pv 0)) (dv_k pe_int fun _ _ => .int) (fun _ _ => rfl)) (dv_var (pv 1)))) (pg_sub (pv 0) (de_k pe_int fun _ _ => .int) set_list)))
      (dss_one (ds_ret (de_mv (pv 2))))))
      dss_nil)
      (dss_cons (ds_setL (ps_asg (de_ofV (dv_op op_modN vMod (dv_op op_addU vAdd (dv_op op_addU vAdd (dv_op op_mul vMul (dv_ixU (room1 hr) (dv_var (pv 0)) (dv_k pe_int fun _ _ => .int) (fun _ _ => rfl)) (dv_k pe_int fun _ _ => .int)) (dv_op op_mul vMul (dv_op op_mul vMul (dv_k pe_int fun _ _ => .int) (dv_ixU (room1 hr) (dv_var (pv 0)) (dv_k pe_int fun _ _ => .int) (fun _ _ => rfl))) (dv_ixU (room1 hr) (dv_var (pv 0)) (dv_k pe_int fun _ _ => .int) (fun _ _ => rfl)))) (dv_k pe_int fun _ _ => .int)) (dv_k pe_int fun _ _ => .int))) (pg_sub (pv 0) (de_k pe_int fun _ _ => .int) set_list)))
      (dss_cons (ds_setL (ps_asg (de_ofV (dv_op op_addU vAdd (dv_ixU (room1 hr) (dv_var (pv 0)) (dv_k pe_int fun _ _ => .int) (fun _ _ => rfl)) (dv_k pe_int fun _ _ => .int))) (pg_sub (pv 0) (de_k pe_int fun _ _ => .int) set_list)))
      (dss_one (ds_ret (de_ofV (dv_op op_modN vMod (dv_op op_fdivX vFdiv (dv_op op_modN vMod (dv_op op_mul vMul (dv_ixU (room1 hr) (dv_var (pv 0)) (dv_k pe_int fun _ _ => .int) (fun _ _ => rfl)) (dv_k pe_int fun _ _ => .int)) (dv_k pe_int fun _ _ => .int)) (dv_k pe_int fun _ _ => .int)) (dv_var (pv 1)))))))))
theorem ok__law_house {f : Addr} {fd : FuncData} (F : Fun K "_law_house" "_law_house" s__law_house f fd) (hm : mg "_law_house" = some (.ref f)) (B : Bi mg) (C__law_take : Cal P w K mg base RX "_law_take" 1 (true :: List.replicate 1 false) m__law_take) : Cal P w K mg base RX "_law_house" 2 (true :: List.replicate 0 false) m__law_house := by
  refine ⟨f, fd, ["_law_bag_here"], fn_ok (k := 1) F sc__law_house rfl rfl fun cdv A outer s H E hr => ?_, hm, F.kp, F.binds fun _ _ _ _ _ _ us hl => match us, hl with | [_], _ => rfl⟩
  unfold b__law_house
  exact (dss_cons (ds_set (ps_set (i := 1) sc__law_house.nd rfl (by first | exact Or.inl rfl | exact Or.inr rfl) (de_op op_addU vAdd (de_k pe_int fun _ _ => .int) (de_callIOC C__law_take hr (by decide) rfl (L2N.takes_of rfl rfl rfl rfl) (pv 0) (da_cons (de_k pe_int fun _ _ => .int) da_nil)))) (by decide))
      (dss_cons (ds_set (ps_set (i := 2) sc__law_house.nd rfl (by first | exact Or.inl rfl | exact Or.inr rfl) (de_op op_addU vAdd (de_k pe_int fun _ _ => .int) (de_callIOC C__law_take hr (by decide) rfl (L2N.takes_of rfl rfl rfl rfl) (pv 0) (da_cons (de_k pe_int fun _ _ => .int) da_nil)))) (by decide))
      (dss_cons (ds_set (ps_set (i := 3) sc__law_house.nd rfl (by first | exact Or.inl rfl | exact Or.inr rfl) (de_callIOC C__law_take hr (by decide) rfl (L2N.takes_of rfl rfl rfl rfl) (pv 0) (da_cons (de_k pe_int fun _ _ => .int) da_nil))) (by decide))
      (dss_cons (ds_set (ps_set (i := 4) sc__law_house.nd rfl (by first | exact Or.inl rfl | exact Or.inr rfl) (de_lst da_nil)) (by decide))
      (dss_cons (ds_set (ps_set (i := 5) sc__law_house.nd rfl (by first | exact Or.inl rfl | exact Or.inr rfl) (de_k pe_int fun _ _ => .int)) (by decide))
      (dss_cons (ds_for (passes_of rfl) rfl (di_range1 (by rfl) B.range (da_cons (de_var (pv 2)) da_nil)) (dg_name (pg_name (i := 6) sc__law_house.nd rfl (by first | exact Or.inl rfl | exact Or.inr rfl)) (by decide))
      (dss_cons (ds_set (ps_set (i := 5) sc__law_house.nd rfl (by first | exact Or.inl rfl | exact Or.inr rfl) (de_op op_addU vAdd (de_var (pv 5)) (de_callIOC C__law_take hr (by decide) rfl (L2N.takes_of rfl rfl rfl rfl) (pv 0) (da_cons (de_ofV (dv_op op_sub vSub (dv_op op_addU vAdd (dv_op op_sub vSub (dv_k pe_int fun _ _ => .int) (dv_var (pv 2))) (dv_var (pv 6))) (dv_var (pv 5)))) da_nil)))) (by decide))
      (dss_cons (ds_set (ps_set (i := 7) sc__law_house.nd rfl (by first | exact Or.inl rfl | exact Or.inr rfl) (de_op op_addU vAdd (de_k pe_int fun _ _ => .int) (de_callIOC C__law_take hr (by decide) rfl (L2N.takes_of rfl rfl rfl rfl) (pv 0) (da_cons (de_ofV (dv_op op_sub vSub (dv_op op_shl vShl (dv_k pe_int fun _ _ => .int) (dv_var (pv 1))) (dv_k pe_int fun _ _ => .int))) da_nil)))) (by decide))
      (dss_cons (ds_if (dt_cmpV (op_eqU (room64 hr)) vEq (dv_var (pv 3)) (dv_k pe_int fun _ _ => .int) (nomark _))
      (dss_one (ds_set (ps_set (i := 7) sc__law_house.nd rfl (by first | exact Or.inl rfl | exact Or.inr rfl) (de_op op_or vBor (de_op op_shl vShl (de_k pe_int fun _ _ => .int) (de_callIOC C__law_take hr (by decide) rfl (L2N.takes_of rfl rfl rfl rfl) (pv 0) (da_cons (de_var (pv 1)) da_nil))) (de_op op_shl vShl (de_k pe_int fun _ _ => .int) (de_callIOC C__law_take hr (by decide) rfl (L2N.takes_of rfl rfl rfl rfl) (pv 0) (da_cons (de_var (pv 1)) da_nil))))) (by decide)))
      dss_nil)
      (dss_cons (ds_append (ps_expr (pe_bm PySem.F.plainAttrs_list PySem.F.slot_list_append PySem.F.type_list_append mt_append (pv 4) (da_cons (de_tup (da_cons (de_ofV (dv_ixU (room1 hr) (dv_k pe_str fun _ _ => .str) (dv_var (pv 5)) (fun _ _ => rfl))) (da_cons (de_lc rfl (pe_lc (own := [("_law_hand", 8)]) (g := tG _ [0, 1, 2, 3, 4, 5, 6, 7] _) rfl sc__law_house.nd (di_range1 (by rfl) B.range (da_cons (de_var (pv 1)) da_nil)) (blkOk_by (own := [("_law_hand", 8)]) (by kernel_rfl)) (fun _ _ _ _ _ => (dg_name (pg_name (i := 8) sc__law_house.nd rfl (by first | exact Or.inl rfl | exact Or.inr rfl)) (by decide))) (fun _ _ _ _ _ => (dts_one (dt_cmpV (op_eqU (room64 hr)) vEq (dv_op op_and vBand (dv_op op_shr vShr (dv_var (pv 7)) (dv_var (pv 8))) (dv_k pe_int fun _ _ => .int)) (dv_k pe_int fun _ _ => .int) (nomark _)))) (fun _ _ _ _ _ => (de_var (pv 8))))) da_nil))) da_nil))))
      (dss_one (ds_set (ps_set (i := 5) sc__law_house.nd rfl (by first | exact Or.inl rfl | exact Or.inr rfl) (de_ofV (dv_op op_addU vAdd (dv_var (pv 5)) (dv_k pe_int fun _ _ => .int)))) (by decide))))))))
      (dss_one (ds_ret (de_tup (da_consL (pv 1) (da_consL (pv 4) da_nil)))))))))))
theorem ok__law_bag {f : Addr} {fd : FuncData} (F : Fun K "_law_bag" "_law_bag" s__law_bag f fd) (hm : mg "_law_bag" = some (.ref f)) (B : Bi mg)  : Cal P w K mg base RX "_law_bag" 1 (List.replicate 1 false) m__law_bag := by
  refine ⟨f, fd, ["_law_cell_here"], fn_ok (k := 0) F sc__law_bag rfl rfl fun cdv A outer s H E hr => ?_, hm, F.kp, F.binds fun _ _ _ _ _ _ us hl => match us, hl with | [_], _ => rfl⟩
  unfold b__law_bag
  exact (dss_cons (ds_if (dt_cmpV op_geU vGe (dv_callB (pe_callB call_abs (by rfl) B.abs boot_abs (dav_cons (dv_var (pv 0)) dav_nil)) vAbs) (dv_op op_pow vPow (dv_k pe_int fun _ _ => .int) (dv_k pe_int fun _ _ => .int)) (nomark _))
      (dss_one (ds_ret (de_lst (da_cons (de_ofV (dv_callB (pe_callB call_abs (by rfl) B.abs boot_abs (dav_cons (dv_var (pv 0)) dav_nil)) vAbs)) (da_cons (de_k pe_int fun _ _ => .int) da_nil)))))
      dss_nil)
      (dss_one (ds_ret (de_lst (da_cons (de_ofV (dv_op op_modN vMod (dv_var (pv 0)) (dv_k pe_int fun _ _ => .int))) (da_cons (de_k pe_int fun _ _ => .int) da_nil))))))
theorem ok__law_cell {f : Addr} {fd : FuncData} (F : Fun K "_law_cell" "_law_cell" s__law_cell f fd) (hm : mg "_law_cell" = some (.ref f)) (B : Bi mg)  : Cal P w K mg base RX "_law_cell" 1 (List.replicate 2 false) m__law_cell := by
  refine ⟨f, fd, ["_law_script", "_law_k"], fn_ok (k := 0) F sc__law_cell rfl rfl fun cdv A outer s H E hr => ?_, hm, F.kp, F.binds fun _ _ _ _ _ _ us hl => match us, hl with | [_, _], _ => rfl⟩
  unfold b__law_cell
  exact (dss_cons (ds_if (dt_cmpV op_ltU vLt (dv_var (pv 1)) (dv_callB (pe_callB call_lenU (by rfl) B.len boot_len (dav_cons (dv_var (pv 0)) dav_nil)) vLen) (nomark _))
      (dss_one (ds_ret (de_ofV (dv_ixU (room1 hr) (dv_var (pv 0)) (dv_var (pv 1)) (fun _ _ => rfl)))))
      dss_nil)
      (dss_one (ds_ret (de_k pe_int fun _ _ => .int))))
theorem ok__law_drawn_table {f : Addr} {fd : FuncData} (F : Fun K "_law_drawn_table" "_law_drawn_table" s__law_drawn_table f fd) (hm : mg "_law_drawn_table" = some (.ref f)) (B : Bi mg) (C__law_take : Cal P w K mg base RX "_law_take" 1 (true :: List.replicate 1 false) m__law_take) : Cal P w K mg base RX "_law_drawn_table" 2 (true :: List.replicate 1 false) m__law_drawn_table := by
  refine ⟨f, fd, ["_law_bag_here", "_law_house_here"], fn_ok (k := 1) F sc__law_drawn_table rfl rfl fun cdv A outer s H E hr => ?_, hm, F.kp, F.binds fun _ _ _ _ _ _ us hl => match us, hl with | [_, _], _ => rfl⟩
  unfold b__law_drawn_table
  exact (dss_cons (ds_set (ps_set (i := 2) sc__law_drawn_table.nd rfl (by first | exact Or.inl rfl | exact Or.inr rfl) (de_ofV (dv_ixU (room1 hr) (dv_var (pv 1)) (dv_k pe_int fun _ _ => .int) (fun _ _ => rfl)))) (by decide))
      (dss_cons (ds_setLc rfl (ps_setLc (i := 3) (own := [("_law_hand", 13)]) (g := tG _ [0, 1, 2, 3, 4, 5, 6, 7, 8, 9, 10, 11, 12, 14, 15, 16, 17, 18, 19, 20] _) rfl sc__law_drawn_table.nd rfl rfl (sw_true rfl rfl rfl (by decide +kernel)) (di_range1 (by rfl) B.range (da_cons (de_var (pv 2)) da_nil)) (blkOk_by (own := [("_law_hand", 13)]) (by kernel_rfl)) (fun _ _ _ _ _ => (dg_name (pg_name (i := 13) sc__law_drawn_table.nd rfl (by first | exact Or.inl rfl | exact Or.inr rfl)) (by decide))) (fun _ _ _ _ _ => dts_0) (fun _ _ _ _ _ => (de_op op_addU vAdd (de_k pe_int fun _ _ => .int) (de_callIOC C__law_take hr (by decide) rfl takesN0 (pv 0) (da_cons (de_k pe_int fun _ _ => .int) da_nil))))) (by decide))
      (dss_cons (ds_set (ps_set (i := 4) sc__law_drawn_table.nd rfl (by first | exact Or.inl rfl | exact Or.inr rfl) (de_lst (da_cons (de_tup da_nil) da_nil))) (by decide))
      (dss_cons (ds_for (passes_of rfl) rfl (di_list (de_var (pv 3))) (dg_name (pg_name (i := 5) sc__law_drawn_table.nd rfl (by first | exact Or.inl rfl | exact Or.inr rfl)) (by decide))
      (dss_cons (ds_set (ps_set (i := 6) sc__law_drawn_table.nd rfl (by first | exact Or.inl rfl | exact Or.inr rfl) (de_lst da_nil)) (by decide))
      (dss_cons (ds_for (passes_of rfl) rfl (di_list (de_var (pv 4))) (dg_name (pg_name (i := 7) sc__law_drawn_table.nd rfl (by first | exact Or.inl rfl | exact Or.inr rfl)) (by decide))
      (dss_one (ds_extend (ps_expr (pe_bm PySem.F.plainAttrs_list PySem.F.slot_list_extend PySem.F.type_list_extend mt_extend (pv 6) (da_cons (de_lc rfl (pe_lc (own := [("_law_number", 20)]) (g := tG _ [0, 1, 2, 3, 4, 5, 6, 7, 8, 9, 10, 11, 12, 13, 14, 15, 16, 17, 18, 19] _) rfl sc__law_drawn_table.nd (di_range1 (by rfl) B.range (da_cons (de_var (pv 5)) da_nil)) (blkOk_by (own := [("_law_number", 20)]) (by kernel_rfl)) (fun _ _ _ _ _ => (dg_name (pg_name (i := 20) sc__law_drawn_table.nd rfl (by first | exact Or.inl rfl | exact Or.inr rfl)) (by decide))) (fun _ _ _ _ _ => dts_0) (fun _ _ _ _ _ => (de_ofV (dv_op op_catA vAddT (dv_var (pv 7)) (dv_tup (dav_cons (dv_var (pv 20)) dav_nil))))))) da_nil))))))
      (dss_one (ds_set (ps_set (i := 4) sc__law_drawn_table.nd rfl (by first | exact Or.inl rfl | exact Or.inr rfl) (de_var (pv 6))) (by decide))))))
      (dss_cons (ds_set (ps_set (i := 8) sc__law_drawn_table.nd rfl (by first | exact Or.inl rfl | exact Or.inr rfl) (de_lst da_nil)) (by decide))
      (dss_cons (ds_for (passes_of rfl) rfl (di_list (de_ofV (dv_ixU (room1 hr) (dv_var (pv 1)) (dv_k pe_int fun _ _ => .int) (fun _ _ => rfl)))) (dg_tup rfl (dgs_cons (dg_name (pg_name (i := 9) sc__law_drawn_table.nd rfl (by first | exact Or.inl rfl | exact Or.inr rfl)) (by decide)) (dgs_cons (dg_name (pg_name (i := 10) sc__law_drawn_table.nd rfl (by first | exact Or.inl rfl | exact Or.inr rfl)) (by decide)) dgs_nil)))
      (dss_cons (ds_set (ps_set (i := 11) sc__law_drawn_table.nd rfl (by first | exact Or.inl rfl | exact Or.inr rfl) de_dnewT) (by decide))
      (dss_cons (ds_for (passes_of rfl) rfl (di_list (de_var (pv 4))) (dg_name (pg_name (i := 7) sc__law_drawn_table.nd rfl (by first | exact Or.inl rfl | exact Or.inr rfl)) (by decide))
      (dss_cons (ds_set (ps_set (i := 12) sc__law_drawn_table.nd rfl (by first | exact Or.inl rfl | exact Or.inr rfl) (de_callB (pe_callTy call_tuple_of (by rfl) B.tuple boot_tuple (da_cons (de_lc rfl (pe_lc (own := [("_law_hand", 13)]) (g := tG _ [0, 1, 2, 3, 4, 5, 6, 7, 8, 9, 10, 11, 12, 14, 15, 16, 17, 18, 19, 20] _) rfl sc__law_drawn_table.nd (di_list (de_var (pv 10))) (blkOk_by (own := [("_law_hand", 13)]) (by kernel_rfl)) (fun _ _ _ _ _ => (dg_name (pg_name (i := 13) sc__law_drawn_table.nd rfl (by first | exact Or.inl rfl | exact Or.inr rfl)) (by decide))) (fun _ _ _ _ _ => dts_0) (fun _ _ _ _ _ => (de_ofV (dv_ixU (room1 hr) (dv_var (pv 7)) (dv_var (pv 13)) (fun _ _ => rfl)))))) da_nil)) vTuple)) (by decide))
      (dss_one (ds_if (dt_cmpV (op_ninU (room65 hr)) vNin (dv_var (pv 12)) (dv_var (pv 11)) rfl)
      (dss_cons (ds_putO (ps_asg (de_lst da_nil) (pg_sub (pv 11) (de_var (pv 12)) (set_dict (room1 hr)))))
      (dss_one (ds_for (passes_of rfl) rfl (di_list (de_var (pv 10))) (dg_name (pg_name (i := 13) sc__law_drawn_table.nd rfl (by first | exact Or.inl rfl | exact Or.inr rfl)) (by decide))
      (dss_one (ds_appD (ps_expr (pe_bm PySem.F.plainAttrs_list PySem.F.slot_list_append PySem.F.type_list_append mt_append (pe_ix (ix_U (room1 hr)) (pv 11) (dv_var (pv 12)) (fun _ _ => rfl)) (da_cons (de_callIOC C__law_take hr (by decide) rfl (L2N.takes_of rfl rfl rfl rfl) (pv 0) (da_cons (de_ofV (dv_ixU (room1 hr) (dv_var (pv 3)) (dv_var (pv 13)) (fun _ _ => rfl))) da_nil)) da_nil))))))))
      dss_nil))))
      (dss_one (ds_append (ps_expr (pe_bm PySem.F.plainAttrs_list PySem.F.slot_list_append PySem.F.type_list_append mt_append (pv 8) (da_cons (de_var (pv 11)) da_nil))))))))
      (dss_cons (ds_set (ps_set (i := 14) sc__law_drawn_table.nd rfl (by first | exact Or.inl rfl | exact Or.inr rfl) (de_callIOC C__law_take hr (by decide) rfl (L2N.takes_of rfl rfl rfl rfl) (pv 0) (da_cons (de_ofV (dv_callB (pe_callB call_lenU (by rfl) B.len boot_len (dav_cons (dv_var (pv 4)) dav_nil)) vLen)) da_nil))) (by decide))
      (dss_cons (ds_set (ps_set (i := 4) sc__law_drawn_table.nd rfl (by first | exact Or.inl rfl | exact Or.inr rfl) (de_op op_addU vAdd (de_slice (de_var (pv 4)) (do_some (de_var (pv 14))) do_0) (de_slice (de_var (pv 4)) do_0 (do_some (de_var (pv 14)))))) (by decide))
      (dss_cons (ds_set (ps_set (i := 15) sc__law_drawn_table.nd rfl (by first | exact Or.inl rfl | exact Or.inr rfl) (de_lst da_nil)) (by decide))
      (dss_cons (ds_for (passes_of rfl) rfl (di_list (de_var (pv 4))) (dg_name (pg_name (i := 7) sc__law_drawn_table.nd rfl (by first | exact Or.inl rfl | exact Or.inr rfl)) (by decide))
      (dss_cons (ds_set (ps_set (i := 16) sc__law_drawn_table.nd rfl (by first | exact Or.inl rfl | exact Or.inr rfl) (de_lst da_nil)) (by decide))
      (dss_cons (ds_for (passes_of rfl) rfl (di_enum (by rfl) B.enumerate (da_cons (de_ofV (dv_ixU (room1 hr) (dv_var (pv 1)) (dv_k pe_int fun _ _ => .int) (fun _ _ => rfl))) da_nil)) (dg_tup rfl (dgs_cons (dg_name (pg_name (i := 17) sc__law_drawn_table.nd rfl (by first | exact Or.inl rfl | exact Or.inr rfl)) (by decide)) (dgs_cons (dg_tup rfl (dgs_cons (dg_name (pg_name (i := 9) sc__law_drawn_table.nd rfl (by first | exact Or.inl rfl | exact Or.inr rfl)) (by decide)) (dgs_cons (dg_name (pg_name (i := 10) sc__law_drawn_table.nd rfl (by first | exact Or.inl rfl | exact Or.inr rfl)) (by decide)) dgs_nil))) dgs_nil)))
      (dss_cons (ds_set (ps_set (i := 18) sc__law_drawn_table.nd rfl (by first | exact Or.inl rfl | exact Or.inr rfl) (de_callB (pe_callTy call_list_of (by rfl) B.list boot_list (da_cons (de_var (pv 7)) da_nil)) vList)) (by decide))
      (dss_cons (ds_set (ps_set (i := 19) sc__law_drawn_table.nd rfl (by first | exact Or.inl rfl | exact Or.inr rfl) (de_ixU (room1 hr) (de_ofV (dv_ixU (room1 hr) (dv_var (pv 8)) (dv_var (pv 17)) (fun _ _ => rfl))) (de_callB (pe_callTy call_tuple_of (by rfl) B.tuple boot_tuple (da_cons (de_lc rfl (pe_lc (own := [("_law_hand", 13)]) (g := tG _ [0, 1, 2, 3, 4, 5, 6, 7, 8, 9, 10, 11, 12, 14, 15, 16, 17, 18, 19, 20] _) rfl sc__law_drawn_table.nd (di_list (de_var (pv 10))) (blkOk_by (own := [("_law_hand", 13)]) (by kernel_rfl)) (fun _ _ _ _ _ => (dg_name (pg_name (i := 13) sc__law_drawn_table.nd rfl (by first | exact Or.inl rfl | exact Or.inr rfl)) (by decide))) (fun _ _ _ _ _ => dts_0) (fun _ _ _ _ _ => (de_ofV (dv_ixU (room1 hr) (dv_var (pv 7)) (dv_var (pv 13)) (fun _ _ => rfl)))))) da_nil)) vTuple) (fun _ _ => rfl))) (by decide))
      (dss_cons (ds_for (passes_of rfl) rfl (di_zip (pi_zip (by rfl) B.zip (da_cons (de_var (pv 10)) (da_cons (de_var (pv 19)) da_nil)))) (dg_tup rfl (dgs_cons (dg_name (pg_name (i := 13) sc__law_drawn_table.nd rfl (by first | exact Or.inl rfl | exact Or.inr rfl)) (by decide)) (dgs_cons (dg_name (pg_name (i := 20) sc__law_drawn_table.nd rfl (by first | exact Or.inl rfl | exact Or.inr rfl)) (by decide)) dgs_nil)))
      (dss_one (ds_setL (ps_asg (de_var (pv 20)) (pg_sub (pv 18) (de_var (pv 13)) set_list)))))
      (dss_one (ds_append (ps_expr (pe_bm PySem.F.plainAttrs_list PySem.F.slot_list_append PySem.F.type_list_append mt_append (pv 16) (da_cons (de_meth vIndex (pe_bm PySem.F.plainAttrs_list PySem.F.slot_list_index PySem.F.type_list_index (mt_indexD (room65 hr)) (de_var (pv 4)) (da_cons (de_callBV (pe_callTy call_tuple_of (by rfl) B.tuple boot_tuple (dav_cons (dv_var (pv 18)) dav_nil)) vTuple) da_nil))) da_nil)))))))))
      (dss_one (ds_append (ps_expr (pe_bm PySem.F.plainAttrs_list PySem.F.slot_list_append PySem.F.type_list_append mt_append (pv 15) (da_cons (de_tup (da_cons (de_var (pv 7)) (da_cons (de_cmpEV (op_eqU (room64 hr)) vEq (de_callIOC C__law_take hr (by decide) rfl (L2N.takes_of rfl rfl rfl rfl) (pv 0) (da_cons (de_k pe_int fun _ _ => .int) da_nil)) (dv_k pe_int fun _ _ => .int) (nomark _)) (da_cons (de_callBV (pe_callTy call_tuple_of (by rfl) B.tuple boot_tuple (dav_cons (dv_var (pv 16)) dav_nil)) vTuple) da_nil)))) da_nil))))))))
      (dss_one (ds_ret (de_mv (pv 15))))))))))))))
theorem ok__law_machine {f : Addr} {fd : FuncData} (F : Fun K "_law_machine" "_law_machine" s__law_machine f fd) (hm : mg "_law_machine" = some (.ref f)) (B : Bi mg) (C__law_take : Cal P w K mg base RX "_law_take" 1 (true :: List.replicate 1 false) m__law_take) : Cal P w K mg base RX "_law_machine" 2 (true :: List.replicate 2 false) m__law_machine := by
  refine ⟨f, fd, ["_law_bag_here", "_law_house_here", "_law_most"], fn_ok (k := 1) F sc__law_machine rfl rfl fun cdv A outer s H E hr => ?_, hm, F.kp, F.binds fun _ _ _ _ _ _ us hl => match us, hl with | [_, _, _], _ => rfl⟩
  unfold b__law_machine
  exact (dss_cons (ds_set (ps_set (i := 3) sc__law_machine.nd rfl (by first | exact Or.inl rfl | exact Or.inr rfl) (de_op op_addU vAdd (de_k pe_int fun _ _ => .int) (de_callIOC C__law_take hr (by decide) rfl (L2N.takes_of rfl rfl rfl rfl) (pv 0) (da_cons (de_var (pv 2)) da_nil)))) (by decide))
      (dss_cons (ds_set (ps_set (i := 4) sc__law_machine.nd rfl (by first | exact Or.inl rfl | exact Or.inr rfl) (de_lst da_nil)) (by decide))
      (dss_cons (ds_for (passes_of rfl) rfl (di_range1 (by rfl) B.range (da_cons (de_var (pv 3)) da_nil)) (dg_name (pg_name (i := 5) sc__law_machine.nd rfl (by first | exact Or.inl rfl | exact Or.inr rfl)) (by decide))
      (dss_cons (ds_set (ps_set (i := 6) sc__law_machine.nd rfl (by first | exact Or.inl rfl | exact Or.inr rfl) (de_lst da_nil)) (by decide))
      (dss_cons (ds_for (passes_of rfl) rfl (di_list (de_ofV (dv_ixU (room1 hr) (dv_var (pv 1)) (dv_k pe_int fun _ _ => .int) (fun _ _ => rfl)))) (dg_name (pg_name (i := 7) sc__law_machine.nd rfl (by first | exact Or.inl rfl | exact Or.inr rfl)) (by decide))
      (dss_one (ds_append (ps_expr (pe_bm PySem.F.plainAttrs_list PySem.F.slot_list_append PySem.F.type_list_append mt_append (pv 6) (da_cons (de_callIOC C__law_take hr (by decide) rfl (L2N.takes_of rfl rfl rfl rfl) (pv 0) (da_cons (de_var (pv 3)) da_nil)) da_nil))))))
      (dss_one (ds_append (ps_expr (pe_bm PySem.F.plainAttrs_list PySem.F.slot_list_append PySem.F.type_list_append mt_append (pv 4) (da_consL (pv 6) da_nil))))))))
      (dss_cons (ds_set (ps_set (i := 8) sc__law_machine.nd rfl (by first | exact Or.inl rfl | exact Or.inr rfl) (de_callIOC C__law_take hr (by decide) rfl (L2N.takes_of rfl rfl rfl rfl) (pv 0) (da_cons (de_ofV (dv_op op_shl vShl (dv_k pe_int fun _ _ => .int) (dv_var (pv 3)))) da_nil))) (by decide))
      (dss_one (ds_ret (de_tup (da_consL (pv 4) (da_cons (de_lc rfl (pe_lc (own := [("_law_room", 5)]) (g := tG _ [0, 1, 2, 3, 4, 6, 7, 8] _) rfl sc__law_machine.nd (di_range1 (by rfl) B.range (da_cons (de_var (pv 3)) da_nil)) (blkOk_by (own := [("_law_room", 5)]) (by kernel_rfl)) (fun _ _ _ _ _ => (dg_name (pg_name (i := 5) sc__law_machine.nd rfl (by first | exact Or.inl rfl | exact Or.inr rfl)) (by decide))) (fun _ _ _ _ _ => (dts_one (dt_cmpV (op_eqU (room64 hr)) vEq (dv_op op_and vBand (dv_op op_shr vShr (dv_var (pv 8)) (dv_var (pv 5))) (dv_k pe_int fun _ _ => .int)) (dv_k pe_int fun _ _ => .int) (nomark _)))) (fun _ _ _ _ _ => (de_var (pv 5))))) da_nil)))))))))
theorem ok__law_apart {f : Addr} {fd : FuncData} (F : Fun K "_law_apart" "_law_apart" s__law_apart f fd) (hm : mg "_law_apart" = some (.ref f)) (B : Bi mg)  : Cal P w K mg base RX "_law_apart" 1 (List.replicate 3 false) m__law_apart := by
  refine ⟨f, fd, ["_law_house_here", "_law_machine_here", "_law_table"], fn_ok (k := 0) F sc__law_apart rfl rfl fun cdv A outer s H E hr => ?_, hm, F.kp, F.binds fun _ _ _ _ _ _ us hl => match us, hl with | [_, _, _], _ => rfl⟩
  unfold b__law_apart
  exact (dss_cons (ds_setLc rfl (ps_setLc (i := 3) (own := [("_law_letter", 12), ("_law_owned", 13)]) (g := tG _ [0, 1, 2, 3, 4, 5, 6, 7, 8, 9, 10, 11] _) rfl sc__law_apart.nd rfl rfl (sw_true rfl rfl rfl (by decide +kernel)) (di_list (de_ofV (dv_ixU (room1 hr) (dv_var (pv 0)) (dv_k pe_int fun _ _ => .int) (fun _ _ => rfl)))) (blkOk_by (own := [("_law_letter", 12), ("_law_owned", 13)]) (by kernel_rfl)) (fun _ _ _ _ _ => (dg_tup rfl (dgs_cons (dg_name (pg_name (i := 12) sc__law_apart.nd rfl (by first | exact Or.inl rfl | exact Or.inr rfl)) (by decide)) (dgs_cons (dg_name (pg_name (i := 13) sc__law_apart.nd rfl (by first | exact Or.inl rfl | exact Or.inr rfl)) (by decide)) dgs_nil)))) (fun _ _ _ _ _ => dts_0) (fun _ _ _ _ _ => (de_var (pv 12)))) (by decide))
      (dss_cons (ds_set (ps_set (i := 4) sc__law_apart.nd rfl (by first | exact Or.inl rfl | exact Or.inr rfl) (de_d1T (Nat.lt_of_succ_lt (room1 hr)) (de_tup (da_cons (de_k pe_int fun _ _ => .int) (da_cons (de_k pe_int fun _ _ => .int) da_nil))) (de_k pe_bl fun _ _ => .bl))) (by decide))
      (dss_cons (ds_set (ps_set (i := 5) sc__law_apart.nd rfl (by first | exact Or.inl rfl | exact Or.inr rfl) (de_lst (da_cons (de_tup (da_cons (de_k pe_str fun _ _ => .str) (da_cons (de_k pe_int fun _ _ => .int) (da_cons (de_k pe_int fun _ _ => .int) da_nil)))) da_nil))) (by decide))
      (dss_cons (ds_while (passes_of rfl) (dt_cmpV (op_neU (room64 hr)) vNe (dv_var (pv 5)) (dv_lst dav_nil) (nomark _))
      (dss_cons (ds_for (passes_of rfl) rfl (di_list (de_var (pv 5))) (dg_tup rfl (dgs_cons (dg_name (pg_name (i := 6) sc__law_apart.nd rfl (by first | exact Or.inl rfl | exact Or.inr rfl)) (by decide)) (dgs_cons (dg_name (pg_name (i := 7) sc__law_apart.nd rfl (by first | exact Or.inl rfl | exact Or.inr rfl)) (by decide)) (dgs_cons (dg_name (pg_name (i := 8) sc__law_apart.nd rfl (by first | exact Or.inl rfl | exact Or.inr rfl)) (by decide)) dgs_nil))))
      (dss_one (ds_if (dt_cmpV (op_neU (room64 hr)) vNe (dv_cmp (op_inU (room65 hr)) vIn (dv_var (pv 7)) (dv_ixU (room1 hr) (dv_var (pv 1)) (dv_k pe_int fun _ _ => .int) (fun _ _ => rfl)) rfl) (dv_ixU (room1 hr) (dv_ixU (room1 hr) (dv_var (pv 2)) (dv_var (pv 8)) (fun _ _ => rfl)) (dv_k pe_int fun _ _ => .int) (fun _ _ => rfl)) (nomark _))
      (dss_one (ds_ret (de_mv (pv 6))))
      dss_nil)))
      (dss_cons (ds_set (ps_set (i := 9) sc__law_apart.nd rfl (by first | exact Or.inl rfl | exact Or.inr rfl) (de_lst da_nil)) (by decide))
      (dss_cons (ds_for (passes_of rfl) rfl (di_list (de_var (pv 5))) (dg_tup rfl (dgs_cons (dg_name (pg_name (i := 6) sc__law_apart.nd rfl (by first | exact Or.inl rfl | exact Or.inr rfl)) (by decide)) (dgs_cons (dg_name (pg_name (i := 7) sc__law_apart.nd rfl (by first | exact Or.inl rfl | exact Or.inr rfl)) (by decide)) (dgs_cons (dg_name (pg_name (i := 8) sc__law_apart.nd rfl (by first | exact Or.inl rfl | exact Or.inr rfl)) (by decide)) dgs_nil))))
      (dss_one (ds_for (passes_of rfl) rfl (di_range1 (by rfl) B.range (da_cons (de_ofV (dv_callB (pe_callB call_lenU (by rfl) B.len boot_len (dav_cons (dv_var (pv 3)) dav_nil)) vLen)) da_nil)) (dg_name (pg_name (i := 10) sc__law_apart.nd rfl (by first | exact Or.inl rfl | exact Or.inr rfl)) (by decide))
      (dss_cons (ds_set (ps_set (i := 11) sc__law_apart.nd rfl (by first | exact Or.inl rfl | exact Or.inr rfl) (de_tup (da_cons (de_ofV (dv_ixU (room1 hr) (dv_ixU (room1 hr) (dv_ixU (room1 hr) (dv_var (pv 1)) (dv_k pe_int fun _ _ => .int) (fun _ _ => rfl)) (dv_var (pv 7)) (fun _ _ => rfl)) (dv_var (pv 10)) (fun _ _ => rfl))) (da_cons (de_ofV (dv_ixU (room1 hr) (dv_ixU (room1 hr) (dv_ixU (room1 hr) (dv_var (pv 2)) (dv_var (pv 8)) (fun _ _ => rfl)) (dv_k pe_int fun _ _ => .int) (fun _ _ => rfl)) (dv_var (pv 10)) (fun _ _ => rfl))) da_nil)))) (by decide))
      (dss_one (ds_if (dt_cmpV (op_ninU (room65 hr)) vNin (dv_var (pv 11)) (dv_var (pv 4)) rfl)
      (dss_cons (ds_putD (ps_asg (de_k pe_bl fun _ _ => .bl) (pg_sub (pv 4) (de_var (pv 11)) (set_dict (room1 hr)))))
      (dss_one (ds_append (ps_expr (pe_bm PySem.F.plainAttrs_list PySem.F.slot_list_append PySem.F.type_list_append mt_append (pv 9) (da_cons (de_tup (da_cons (de_ofV (dv_op op_addU vAdd (dv_var (pv 6)) (dv_ixU (room1 hr) (dv_var (pv 3)) (dv_var (pv 10)) (fun _ _ => rfl)))) (da_cons (de_ofV (dv_ixU (room1 hr) (dv_var (pv 11)) (dv_k pe_int fun _ _ => .int) (fun _ _ => rfl))) (da_cons (de_ofV (dv_ixU (room1 hr) (dv_var (pv 11)) (dv_k pe_int fun _ _ => .int) (fun _ _ => rfl))) da_nil)))) da_nil))))))
      dss_nil))))))
      (dss_one (ds_set (ps_set (i := 5) sc__law_apart.nd rfl (by first | exact Or.inl rfl | exact Or.inr rfl) (de_var (pv 9))) (by decide)))))))
      (dss_one (ds_ret (de_k pe_non fun _ _ => .non)))))))
theorem ok_is_whole {f : Addr} {fd : FuncData} (F : Fun K "is_whole" "is_whole" s_is_whole f fd) (hm : mg "is_whole" = some (.ref f)) (B : Bi mg)  : Cal P w K mg base RX "is_whole" 1 (List.replicate 1 false) m_is_whole := by
  refine ⟨f, fd, ["thing"], fn_ok (k := 0) F sc_is_whole rfl rfl fun cdv A outer s H E hr => ?_, hm, F.kp, F.binds fun _ _ _ _ _ _ us hl => match us, hl with | [_], _ => rfl⟩
  unfold b_is_whole
  exact (dss_one (ds_ret (de_and (de_ofV (dv_callB (pe_callB call_isi (by rfl) B.isinstance boot_isinstance (dav_cons (dv_var (pv 0)) (dav_cons (dv_k (pe_bltn (v := .ty "int") (by rfl) B.int boot_int rfl) fun _ _ => .gv) dav_nil))) vIsi)) (de_one (de_not (de_ofV (dv_callB (pe_callB call_isi (by rfl) B.isinstance boot_isinstance (dav_cons (dv_var (pv 0)) (dav_cons (dv_k (pe_bltn (v := .ty "bool") (by rfl) B.bool boot_bool rfl) fun _ _ => .gv) dav_nil))) vIsi)))))))
theorem ok_is_sign {f : Addr} {fd : FuncData} (F : Fun K "is_sign" "is_sign" s_is_sign f fd) (hm : mg "is_sign" = some (.ref f)) (B : Bi mg)  : Cal P w K mg base RX "is_sign" 1 (List.replicate 1 false) m_is_sign := by
  refine ⟨f, fd, ["thing"], fn_ok (k := 0) F sc_is_sign rfl rfl fun cdv A outer s H E hr => ?_, hm, F.kp, F.binds fun _ _ _ _ _ _ us hl => match us, hl with | [_], _ => rfl⟩
  unfold b_is_sign
  exact (dss_one (ds_ret (de_and (de_ofV (dv_callB (pe_callB call_isi (by rfl) B.isinstance boot_isinstance (dav_cons (dv_var (pv 0)) (dav_cons (dv_k (pe_bltn (v := .ty "str") (by rfl) B.str boot_str rfl) fun _ _ => .gv) dav_nil))) vIsi)) (de_and (de_ofV (dv_cmp (op_eqU (room64 hr)) vEq (dv_callB (pe_callB call_lenU (by rfl) B.len boot_len (dav_cons (dv_var (pv 0)) dav_nil)) vLen) (dv_k pe_int fun _ _ => .int) (nomark _))) (de_one (de_ofV (dv_cmp (op_inU (room65 hr)) vIn (dv_var (pv 0)) (dv_k (pe_globS (by rfl) B.c_LETTERS) fun _ _ => .str) rfl)))))))
theorem ok_is_rising {f : Addr} {fd : FuncData} (F : Fun K "is_rising" "is_rising" s_is_rising f fd) (hm : mg "is_rising" = some (.ref f)) (B : Bi mg) (C_is_whole : Cal P w K mg base RX "is_whole" 1 (List.replicate 1 false) m_is_whole) : Cal P w K mg base RX "is_rising" 2 (List.replicate 2 false) m_is_rising := by
  refine ⟨f, fd, ["things", "many"], fn_ok (k := 1) F sc_is_rising rfl rfl fun cdv A outer s H E hr => ?_, hm, F.kp, F.binds fun _ _ _ _ _ _ us hl => match us, hl with | [_, _], _ => rfl⟩
  unfold b_is_rising
  exact (dss_cons (ds_if (dt_not (dt_valV (dv_callB (pe_callB call_isi (by rfl) B.isinstance boot_isinstance (dav_cons (dv_var (pv 0)) (dav_cons (dv_k (pe_bltn (v := .ty "list") (by rfl) B.list PyProof.Rows.boot_list rfl) fun _ _ => .gv) dav_nil))) vIsi)))
      (dss_one (ds_ret (de_k pe_bl fun _ _ => .bl)))
      dss_nil)
      (dss_cons (ds_set (ps_set (i := 2) sc_is_rising.nd rfl (by first | exact Or.inl rfl | exact Or.inr rfl) (de_ofV (dv_un un_neg vNeg (dv_k pe_int fun _ _ => .int)))) (by decide))
      (dss_cons (ds_for (passes_of rfl) rfl (di_list (de_var (pv 0))) (dg_name (pg_name (i := 3) sc_is_rising.nd rfl (by first | exact Or.inl rfl | exact Or.inr rfl)) (by decide))
      (dss_cons (ds_if (PW.pt (dw_or (dt_not (dt_val (de_callC C_is_whole hr (by decide) rfl (L2N.takes_of rfl rfl rfl rfl) (da_cons (de_var (pv 3)) da_nil)))) (dw_or1 (dt_not (dt_chain op_ltU vLt op_ltU vLt (de_var (pv 2)) (de_var (pv 3)) (de_var (pv 1)))))))
      (dss_one (ds_ret (de_k pe_bl fun _ _ => .bl)))
      dss_nil)
      (dss_one (ds_set (ps_set (i := 2) sc_is_rising.nd rfl (by first | exact Or.inl rfl | exact Or.inr rfl) (de_var (pv 3))) (by decide)))))
      (dss_one (ds_ret (de_k pe_bl fun _ _ => .bl))))))
theorem ok_is_entry {f : Addr} {fd : FuncData} (F : Fun K "is_entry" "is_entry" s_is_entry f fd) (hm : mg "is_entry_houses" = some (.ref f)) (B : Bi mg) (C_is_rising : Cal P w K mg base RX "is_rising" 2 (List.replicate 2 false) m_is_rising) (C_is_sign : Cal P w K mg base RX "is_sign" 1 (List.replicate 1 false) m_is_sign) : Cal P w K mg base RX "is_entry_houses" 3 (List.replicate 2 false) m_is_entry := by
  refine ⟨f, fd, ["thing", "hands"], fn_ok (k := 2) F sc_is_entry rfl rfl fun cdv A outer s H E hr => ?_, hm, F.kp, F.binds fun _ _ _ _ _ _ us hl => match us, hl with | [_, _], _ => rfl⟩
  unfold b_is_entry
  exact (dss_cons (ds_if (PW.pt (dw_or (dt_not (dt_valV (dv_callB (pe_callB call_isi (by rfl) B.isinstance boot_isinstance (dav_cons (dv_var (pv 0)) (dav_cons (dv_k (pe_bltn (v := .ty "tuple") (by rfl) B.tuple boot_tuple rfl) fun _ _ => .gv) dav_nil))) vIsi))) (dw_or (dt_cmpV (op_neU (room64 hr)) vNe (dv_callB (pe_callB call_lenU (by rfl) B.len boot_len (dav_cons (dv_var (pv 0)) dav_nil)) vLen) (dv_k pe_int fun _ _ => .int) (nomark _)) (dw_or1 (dt_not (dt_val (de_callC C_is_sign hr (by decide) rfl (L2N.takes_of rfl rfl rfl rfl) (da_cons (de_ofV (dv_ixU (room1 hr) (dv_var (pv 0)) (dv_k pe_int fun _ _ => .int) (fun _ _ => rfl))) da_nil))))))))
      (dss_one (ds_ret (de_k pe_bl fun _ _ => .bl)))
      dss_nil)
      (dss_one (ds_ret (de_and (de_callC C_is_rising hr (by decide) rfl (L2N.takes_of rfl rfl rfl rfl) (da_cons (de_ofV (dv_ixU (room1 hr) (dv_var (pv 0)) (dv_k pe_int fun _ _ => .int) (fun _ _ => rfl))) (da_cons (de_var (pv 1)) da_nil))) (de_one (de_ofV (dv_cmp op_gtU vGt (dv_callB (pe_callB call_lenU (by rfl) B.len boot_len (dav_cons (dv_ixU (room1 hr) (dv_var (pv 0)) (dv_k pe_int fun _ _ => .int) (fun _ _ => rfl)) dav_nil)) vLen) (dv_k pe_int fun _ _ => .int) (nomark _))))))))
theorem ok_is_house {f : Addr} {fd : FuncData} (F : Fun K "is_house" "is_house" s_is_house f fd) (hm : mg "is_house" = some (.ref f)) (B : Bi mg) (C_is_entry : Cal P w K mg base RX "is_entry_houses" 3 (List.replicate 2 false) m_is_entry) (C_is_whole : Cal P w K mg base RX "is_whole" 1 (List.replicate 1 false) m_is_whole) : Cal P w K mg base RX "is_house" 4 (List.replicate 1 false) m_is_house := by
  refine ⟨f, fd, ["thing"], fn_ok (k := 3) F sc_is_house rfl rfl fun cdv A outer s H E hr => ?_, hm, F.kp, F.binds fun _ _ _ _ _ _ us hl => match us, hl with | [_], _ => rfl⟩
  unfold b_is_house
  exact (dss_cons (ds_if (PW.pt (dw_or (dt_not (dt_valV (dv_callB (pe_callB call_isi (by rfl) B.isinstance boot_isinstance (dav_cons (dv_var (pv 0)) (dav_cons (dv_k (pe_bltn (v := .ty "tuple") (by rfl) B.tuple boot_tuple rfl) fun _ _ => .gv) dav_nil))) vIsi))) (dw_or1 (dt_cmpV (op_neU (room64 hr)) vNe (dv_callB (pe_callB call_lenU (by rfl) B.len boot_len (dav_cons (dv_var (pv 0)) dav_nil)) vLen) (dv_k pe_int fun _ _ => .int) (nomark _)))))
      (dss_one (ds_ret (de_k pe_bl fun _ _ => .bl)))
      dss_nil)
      (dss_cons (ds_asg (ps_asg (de_var (pv 0)) (dg_tup rfl (dgs_cons (dg_name (pg_name (i := 1) sc_is_house.nd rfl (by first | exact Or.inl rfl | exact Or.inr rfl)) (by decide)) (dgs_cons (dg_name (pg_name (i := 2) sc_is_house.nd rfl (by first | exact Or.inl rfl | exact Or.inr rfl)) (by decide)) dgs_nil)))))
      (dss_cons (ds_if (PW.pt (dw_or (dt_not (dt_val (de_callC C_is_whole hr (by decide) rfl (L2N.takes_of rfl rfl rfl rfl) (da_cons (de_var (pv 1)) da_nil)))) (dw_or1 (dt_not (dt_chain op_leU vLe op_leU vLe (de_k (pe_globI (by rfl) B.c_FEWEST_HANDS) fun _ _ => .int) (de_var (pv 1)) (de_k (pe_globI (by rfl) B.c_MOST_HANDS) fun _ _ => .int))))))
      (dss_one (ds_ret (de_k pe_bl fun _ _ => .bl)))
      dss_nil)
      (dss_cons (ds_if (PW.pt (dw_or (dt_not (dt_valV (dv_callB (pe_callB call_isi (by rfl) B.isinstance boot_isinstance (dav_cons (dv_var (pv 2)) (dav_cons (dv_k (pe_bltn (v := .ty "list") (by rfl) B.list PyProof.Rows.boot_list rfl) fun _ _ => .gv) dav_nil))) vIsi))) (dw_or1 (dt_not (dt_chain op_leU vLe op_leU vLe (de_k pe_int fun _ _ => .int) (de_ofV (dv_callB (pe_callB call_lenU (by rfl) B.len boot_len (dav_cons (dv_var (pv 2)) dav_nil)) vLen)) (de_k (pe_globI (by rfl) B.c_MOST_LETTERS) fun _ _ => .int))))))
      (dss_one (ds_ret (de_k pe_bl fun _ _ => .bl)))
      dss_nil)
      (dss_cons (ds_set (ps_set (i := 3) sc_is_house.nd rfl (by first | exact Or.inl rfl | exact Or.inr rfl) (de_k pe_str fun _ _ => .str)) (by decide))
      (dss_cons (ds_for (passes_of rfl) rfl (di_list (de_var (pv 2))) (dg_name (pg_name (i := 4) sc_is_house.nd rfl (by first | exact Or.inl rfl | exact Or.inr rfl)) (by decide))
      (dss_cons (ds_if (PW.pt (dw_or (dt_not (dt_val (de_callC C_is_entry hr (by decide) rfl (L2N.takes_of rfl rfl rfl rfl) (da_cons (de_var (pv 4)) (da_cons (de_var (pv 1)) da_nil))))) (dw_or1 (dt_not (dt_cmpV op_ltU vLt (dv_var (pv 3)) (dv_ixU (room1 hr) (dv_var (pv 4)) (dv_k pe_int fun _ _ => .int) (fun _ _ => rfl)) (nomark _))))))
      (dss_one (ds_ret (de_k pe_bl fun _ _ => .bl)))
      dss_nil)
      (dss_one (ds_set (ps_set (i := 3) sc_is_house.nd rfl (by first | exact Or.inl rfl | exact Or.inr rfl) (de_ofV (dv_ixU (room1 hr) (dv_var (pv 4)) (dv_k pe_int fun _ _ => .int) (fun _ _ => rfl)))) (by decide)))))
      (dss_one (ds_ret (de_k pe_bl fun _ _ => .bl)))))))))
theorem ok_look_house {f : Addr} {fd : FuncData} (F : Fun K "look_house" "look_house" s_look_house f fd) (hm : mg "look_house" = some (.ref f)) (B : Bi mg) (C_is_house : Cal P w K mg base RX "is_house" 4 (List.replicate 1 false) m_is_house) : Cal P w K mg base RX "look_house" 5 (List.replicate 1 false) m_look_house := by
  refine ⟨f, fd, ["thing"], fn_ok (k := 4) F sc_look_house rfl rfl fun cdv A outer s H E hr => ?_, hm, F.kp, F.binds fun _ _ _ _ _ _ us hl => match us, hl with | [_], _ => rfl⟩
  unfold b_look_house
  exact (dss_one (ds_if (dt_not (dt_val (de_callC C_is_house hr (by decide) rfl (L2N.takes_of rfl rfl rfl rfl) (da_cons (de_var (pv 0)) da_nil))))
      (dss_one ds_stk)
      dss_nil))
theorem ok_is_line {f : Addr} {fd : FuncData} (F : Fun K "is_line" "is_line" s_is_line f fd) (hm : mg "is_line" = some (.ref f)) (B : Bi mg) (C_is_whole : Cal P w K mg base RX "is_whole" 1 (List.replicate 1 false) m_is_whole) : Cal P w K mg base RX "is_line" 2 (List.replicate 3 false) m_is_line := by
  refine ⟨f, fd, ["thing", "letters", "rooms"], fn_ok (k := 1) F sc_is_line rfl rfl fun cdv A outer s H E hr => ?_, hm, F.kp, F.binds fun _ _ _ _ _ _ us hl => match us, hl with | [_, _, _], _ => rfl⟩
  unfold b_is_line
  exact (dss_cons (ds_if (PW.pt (dw_or (dt_not (dt_valV (dv_callB (pe_callB call_isi (by rfl) B.isinstance boot_isinstance (dav_cons (dv_var (pv 0)) (dav_cons (dv_k (pe_bltn (v := .ty "list") (by rfl) B.list PyProof.Rows.boot_list rfl) fun _ _ => .gv) dav_nil))) vIsi))) (dw_or1 (dt_cmpV (op_neU (room64 hr)) vNe (dv_callB (pe_callB call_lenU (by rfl) B.len boot_len (dav_cons (dv_var (pv 0)) dav_nil)) vLen) (dv_var (pv 1)) (nomark _)))))
      (dss_one (ds_ret (de_k pe_bl fun _ _ => .bl)))
      dss_nil)
      (dss_one (ds_ret (de_callB (pe_callB (cr_all rfl) (by rfl) B.all boot_all (da_cons (de_lc rfl (pe_lc (own := [("room", 3)]) (g := tG _ [0, 1, 2] _) rfl sc_is_line.nd (di_list (de_var (pv 0))) (blkOk_by (own := [("room", 3)]) (by kernel_rfl)) (fun _ _ _ _ _ => (dg_name (pg_name (i := 3) sc_is_line.nd rfl (by first | exact Or.inl rfl | exact Or.inr rfl)) (by decide))) (fun _ _ _ _ _ => dts_0) (fun _ _ _ _ _ => (de_and (de_callC C_is_whole hr (by decide) rfl takesN0 (da_cons (de_var (pv 3)) da_nil)) (de_one (de_chain op_leU vLe op_ltU vLt (de_k pe_int fun _ _ => .int) (de_var (pv 3)) (de_var (pv 2)))))))) da_nil)) vAll))))
theorem ok_is_machine {f : Addr} {fd : FuncData} (F : Fun K "is_machine" "is_machine" s_is_machine f fd) (hm : mg "is_machine" = some (.ref f)) (B : Bi mg) (C_is_rising : Cal P w K mg base RX "is_rising" 2 (List.replicate 2 false) m_is_rising) (C_is_line : Cal P w K mg base RX "is_line" 2 (List.replicate 3 false) m_is_line) (C_look_house : Cal P w K mg base RX "look_house" 5 (List.replicate 1 false) m_look_house) : Cal P w K mg base RX "is_machine" 6 (List.replicate 2 false) m_is_machine := by
  refine ⟨f, fd, ["house", "thing"], fn_ok (k := 5) F sc_is_machine rfl rfl fun cdv A outer s H E hr => ?_, hm, F.kp, F.binds fun _ _ _ _ _ _ us hl => match us, hl with | [_, _], _ => rfl⟩
  unfold b_is_machine
  exact (dss_cons (ds_drop (ps_expr (de_callC C_look_house hr (by decide) rfl (L2N.takes_of rfl rfl rfl rfl) (da_cons (de_var (pv 0)) da_nil))))
      (dss_cons (ds_if (PW.pt (dw_or (dt_not (dt_valV (dv_callB (pe_callB call_isi (by rfl) B.isinstance boot_isinstance (dav_cons (dv_var (pv 1)) (dav_cons (dv_k (pe_bltn (v := .ty "tuple") (by rfl) B.tuple boot_tuple rfl) fun _ _ => .gv) dav_nil))) vIsi))) (dw_or (dt_cmpV (op_neU (room64 hr)) vNe (dv_callB (pe_callB call_lenU (by rfl) B.len boot_len (dav_cons (dv_var (pv 1)) dav_nil)) vLen) (dv_k pe_int fun _ _ => .int) (nomark _)) (dw_or1 (dt_not (dt_valV (dv_callB (pe_callB call_isi (by rfl) B.isinstance boot_isinstance (dav_cons (dv_ixU (room1 hr) (dv_var (pv 1)) (dv_k pe_int fun _ _ => .int) (fun _ _ => rfl)) (dav_cons (dv_k (pe_bltn (v := .ty "list") (by rfl) B.list PyProof.Rows.boot_list rfl) fun _ _ => .gv) dav_nil))) vIsi)))))))
      (dss_one (ds_ret (de_k pe_bl fun _ _ => .bl)))
      dss_nil)
      (dss_cons (ds_set (ps_set (i := 2) sc_is_machine.nd rfl (by first | exact Or.inl rfl | exact Or.inr rfl) (de_ofV (dv_callB (pe_callB call_lenU (by rfl) B.len boot_len (dav_cons (dv_ixU (room1 hr) (dv_var (pv 1)) (dv_k pe_int fun _ _ => .int) (fun _ _ => rfl)) dav_nil)) vLen))) (by decide))
      (dss_cons (ds_if (dt_not (dt_chain op_leU vLe op_leU vLe (de_k pe_int fun _ _ => .int) (de_var (pv 2)) (de_k (pe_globI (by rfl) B.c_MOST_ROOMS) fun _ _ => .int)))
      (dss_one (ds_ret (de_k pe_bl fun _ _ => .bl)))
      dss_nil)
      (dss_one (ds_ret (de_and (de_callB (pe_callB (cr_all rfl) (by rfl) B.all boot_all (da_cons (de_lc rfl (pe_lc (own := [("line", 3)]) (g := tG _ [0, 1, 2] _) rfl sc_is_machine.nd (di_list (de_ofV (dv_ixU (room1 hr) (dv_var (pv 1)) (dv_k pe_int fun _ _ => .int) (fun _ _ => rfl)))) (blkOk_by (own := [("line", 3)]) (by kernel_rfl)) (fun _ _ _ _ _ => (dg_name (pg_name (i := 3) sc_is_machine.nd rfl (by first | exact Or.inl rfl | exact Or.inr rfl)) (by decide))) (fun _ _ _ _ _ => dts_0) (fun _ _ _ _ _ => (de_callC C_is_line hr (by decide) rfl takesN0 (da_cons (de_var (pv 3)) (da_cons (de_ofV (dv_callB (pe_callB call_lenU (by rfl) B.len boot_len (dav_cons (dv_ixU (room1 hr) (dv_var (pv 0)) (dv_k pe_int fun _ _ => .int) (fun _ _ => rfl)) dav_nil)) vLen)) (da_cons (de_var (pv 2)) da_nil))))))) da_nil)) vAll) (de_one (de_callC C_is_rising hr (by decide) rfl (L2N.takes_of rfl rfl rfl rfl) (da_cons (de_ofV (dv_ixU (room1 hr) (dv_var (pv 1)) (dv_k pe_int fun _ _ => .int) (fun _ _ => rfl))) (da_cons (de_var (pv 2)) da_nil)))))))))))
theorem ok_look_machine {f : Addr} {fd : FuncData} (F : Fun K "look_machine" "look_machine" s_look_machine f fd) (hm : mg "look_machine" = some (.ref f)) (B : Bi mg) (C_is_machine : Cal P w K mg base RX "is_machine" 6 (List.replicate 2 false) m_is_machine) : Cal P w K mg base RX "look_machine" 7 (List.replicate 2 false) m_look_machine := by
  refine ⟨f, fd, ["house", "thing"], fn_ok (k := 6) F sc_look_machine rfl rfl fun cdv A outer s H E hr => ?_, hm, F.kp, F.binds fun _ _ _ _ _ _ us hl => match us, hl with | [_, _], _ => rfl⟩
  unfold b_look_machine
  exact (dss_one (ds_if (dt_not (dt_val (de_callC C_is_machine hr (by decide) rfl (L2N.takes_of rfl rfl rfl rfl) (da_cons (de_var (pv 0)) (da_cons (de_var (pv 1)) da_nil)))))
      (dss_one ds_stk)
      dss_nil))
theorem ok_is_entry_tables {f : Addr} {fd : FuncData} (F : Fun K "is_entry" "is_entry" s_is_entry_tables f fd) (hm : mg "is_entry_tables" = some (.ref f)) (B : Bi mg) (C_is_whole : Cal P w K mg base RX "is_whole" 1 (List.replicate 1 false) m_is_whole) : Cal P w K mg base RX "is_entry_tables" 2 (List.replicate 3 false) m_is_entry_tables := by
  refine ⟨f, fd, ["house", "thing", "many"], fn_ok (k := 1) F sc_is_entry_tables rfl rfl fun cdv A outer s H E hr => ?_, hm, F.kp, F.binds fun _ _ _ _ _ _ us hl => match us, hl with | [_, _, _], _ => rfl⟩
  unfold b_is_entry_tables
  exact (dss_cons (ds_if (PW.pt (dw_or (dt_not (dt_valV (dv_callB (pe_callB call_isi (by rfl) B.isinstance boot_isinstance (dav_cons (dv_var (pv 1)) (dav_cons (dv_k (pe_bltn (v := .ty "tuple") (by rfl) B.tuple boot_tuple rfl) fun _ _ => .gv) dav_nil))) vIsi))) (dw_or (dt_cmpV (op_neU (room64 hr)) vNe (dv_callB (pe_callB call_lenU (by rfl) B.len boot_len (dav_cons (dv_var (pv 1)) dav_nil)) vLen) (dv_k pe_int fun _ _ => .int) (nomark _)) (dw_or1 (dt_not (dt_valV (dv_callB (pe_callB call_isi (by rfl) B.isinstance boot_isinstance (dav_cons (dv_ixU (room1 hr) (dv_var (pv 1)) (dv_k pe_int fun _ _ => .int) (fun _ _ => rfl)) (dav_cons (dv_k (pe_bltn (v := .ty "bool") (by rfl) B.bool boot_bool rfl) fun _ _ => .gv) dav_nil))) vIsi)))))))
      (dss_one (ds_ret (de_k pe_bl fun _ _ => .bl)))
      dss_nil)
      (dss_cons (ds_asg (ps_asg (de_var (pv 1)) (dg_tup rfl (dgs_cons (dg_name (pg_name (i := 3) sc_is_entry_tables.nd rfl (by first | exact Or.inl rfl | exact Or.inr rfl)) (by decide)) (dgs_cons (dg_name (pg_name (i := 4) sc_is_entry_tables.nd rfl (by first | exact Or.inl rfl | exact Or.inr rfl)) (by decide)) (dgs_cons (dg_name (pg_name (i := 5) sc_is_entry_tables.nd rfl (by first | exact Or.inl rfl | exact Or.inr rfl)) (by decide)) dgs_nil))))))
      (dss_cons (ds_if (PW.pt (dw_or (dt_not (dt_valV (dv_callB (pe_callB call_isi (by rfl) B.isinstance boot_isinstance (dav_cons (dv_var (pv 3)) (dav_cons (dv_k (pe_bltn (v := .ty "tuple") (by rfl) B.tuple boot_tuple rfl) fun _ _ => .gv) dav_nil))) vIsi))) (dw_or1 (dt_cmpV (op_neU (room64 hr)) vNe (dv_callB (pe_callB call_lenU (by rfl) B.len boot_len (dav_cons (dv_var (pv 3)) dav_nil)) vLen) (dv_ixU (room1 hr) (dv_var (pv 0)) (dv_k pe_int fun _ _ => .int) (fun _ _ => rfl)) (nomark _)))))
      (dss_one (ds_ret (de_k pe_bl fun _ _ => .bl)))
      dss_nil)
      (dss_cons (ds_if (PW.pt (dw_or (dt_not (dt_valV (dv_callB (pe_callB call_isi (by rfl) B.isinstance boot_isinstance (dav_cons (dv_var (pv 5)) (dav_cons (dv_k (pe_bltn (v := .ty "tuple") (by rfl) B.tuple boot_tuple rfl) fun _ _ => .gv) dav_nil))) vIsi))) (dw_or1 (dt_cmpV (op_neU (room64 hr)) vNe (dv_callB (pe_callB call_lenU (by rfl) B.len boot_len (dav_cons (dv_var (pv 5)) dav_nil)) vLen) (dv_callB (pe_callB call_lenU (by rfl) B.len boot_len (dav_cons (dv_ixU (room1 hr) (dv_var (pv 0)) (dv_k pe_int fun _ _ => .int) (fun _ _ => rfl)) dav_nil)) vLen) (nomark _)))))
      (dss_one (ds_ret (de_k pe_bl fun _ _ => .bl)))
      dss_nil)
      (dss_cons (ds_if (dt_not (dt_val (de_callB (pe_callB (cr_all rfl) (by rfl) B.all boot_all (da_cons (de_lc rfl (pe_lc (own := [("number", 6)]) (g := tG _ [0, 1, 2, 3, 4, 5] _) rfl sc_is_entry_tables.nd (di_tup (de_var (pv 3))) (blkOk_by (own := [("number", 6)]) (by kernel_rfl)) (fun _ _ _ _ _ => (dg_name (pg_name (i := 6) sc_is_entry_tables.nd rfl (by first | exact Or.inl rfl | exact Or.inr rfl)) (by decide))) (fun _ _ _ _ _ => dts_0) (fun _ _ _ _ _ => (de_and (de_callC C_is_whole hr (by decide) rfl takesN0 (da_cons (de_var (pv 6)) da_nil)) (de_one (de_ofV (dv_cmp op_geU vGe (dv_var (pv 6)) (dv_k pe_int fun _ _ => .int) (nomark _)))))))) da_nil)) vAll)))
      (dss_one (ds_ret (de_k pe_bl fun _ _ => .bl)))
      dss_nil)
      (dss_one (ds_ret (de_callB (pe_callB (cr_all rfl) (by rfl) B.all boot_all (da_cons (de_lc rfl (pe_lc (own := [("number", 6)]) (g := tG _ [0, 1, 2, 3, 4, 5] _) rfl sc_is_entry_tables.nd (di_tup (de_var (pv 5))) (blkOk_by (own := [("number", 6)]) (by kernel_rfl)) (fun _ _ _ _ _ => (dg_name (pg_name (i := 6) sc_is_entry_tables.nd rfl (by first | exact Or.inl rfl | exact Or.inr rfl)) (by decide))) (fun _ _ _ _ _ => dts_0) (fun _ _ _ _ _ => (de_and (de_callC C_is_whole hr (by decide) rfl takesN0 (da_cons (de_var (pv 6)) da_nil)) (de_one (de_chain op_leU vLe op_ltU vLt (de_k pe_int fun _ _ => .int) (de_var (pv 6)) (de_var (pv 2)))))))) da_nil)) vAll))))))))
theorem ok_is_done_apart {f : Addr} {fd : FuncData} (F : Fun K "is_done_apart" "is_done_apart" s_is_done_apart f fd) (hm : mg "is_done_apart" = some (.ref f)) (B : Bi mg)  : Cal P w K mg base RX "is_done_apart" 1 (List.replicate 3 false) m_is_done_apart := by
  refine ⟨f, fd, ["house", "table", "k"], fn_ok (k := 0) F sc_is_done_apart rfl rfl fun cdv A outer s H E hr => ?_, hm, F.kp, F.binds fun _ _ _ _ _ _ us hl => match us, hl with | [_, _, _], _ => rfl⟩
  unfold b_is_done_apart
  exact (dss_cons (ds_set (ps_set (i := 3) sc_is_done_apart.nd rfl (by first | exact Or.inl rfl | exact Or.inr rfl) (de_ofV (dv_ixU (room1 hr) (dv_ixU (room1 hr) (dv_ixU (room1 hr) (dv_var (pv 0)) (dv_k pe_int fun _ _ => .int) (fun _ _ => rfl)) (dv_var (pv 2)) (fun _ _ => rfl)) (dv_k pe_int fun _ _ => .int) (fun _ _ => rfl)))) (by decide))
      (dss_cons (ds_set (ps_set (i := 4) sc_is_done_apart.nd rfl (by first | exact Or.inl rfl | exact Or.inr rfl) de_dnewT) (by decide))
      (dss_cons (ds_for (passes_of rfl) rfl (di_list (de_var (pv 1))) (dg_tup rfl (dgs_cons (dg_name (pg_name (i := 5) sc_is_done_apart.nd rfl (by first | exact Or.inl rfl | exact Or.inr rfl)) (by decide)) (dgs_cons (dg_name (pg_name (i := 6) sc_is_done_apart.nd rfl (by first | exact Or.inl rfl | exact Or.inr rfl)) (by decide)) (dgs_cons (dg_name (pg_name (i := 7) sc_is_done_apart.nd rfl (by first | exact Or.inl rfl | exact Or.inr rfl)) (by decide)) dgs_nil))))
      (dss_cons (ds_set (ps_set (i := 8) sc_is_done_apart.nd rfl (by first | exact Or.inl rfl | exact Or.inr rfl) (de_ofV (dv_ixU (room1 hr) (dv_ixU (room1 hr) (dv_var (pv 1)) (dv_ixU (room1 hr) (dv_var (pv 7)) (dv_var (pv 2)) (fun _ _ => rfl)) (fun _ _ => rfl)) (dv_k pe_int fun _ _ => .int) (fun _ _ => rfl)))) (by decide))
      (dss_cons (ds_for (passes_of rfl) rfl (di_range1 (by rfl) B.range (da_cons (de_ofV (dv_ixU (room1 hr) (dv_var (pv 0)) (dv_k pe_int fun _ _ => .int) (fun _ _ => rfl))) da_nil)) (dg_name (pg_name (i := 9) sc_is_done_apart.nd rfl (by first | exact Or.inl rfl | exact Or.inr rfl)) (by decide))
      (dss_one (ds_if (PW.pt (dw_and (dt_cmpV (op_ninU (room65 hr)) vNin (dv_var (pv 9)) (dv_var (pv 3)) rfl) (dw_and1 (dt_cmpV (op_neU (room64 hr)) vNe (dv_ixU (room1 hr) (dv_var (pv 8)) (dv_var (pv 9)) (fun _ _ => rfl)) (dv_ixU (room1 hr) (dv_var (pv 5)) (dv_var (pv 9)) (fun _ _ => rfl)) (nomark _)))))
      (dss_one (ds_ret (de_k pe_bl fun _ _ => .bl)))
      dss_nil)))
      (dss_cons (ds_set (ps_set (i := 10) sc_is_done_apart.nd rfl (by first | exact Or.inl rfl | exact Or.inr rfl) (de_callB (pe_callTy call_tuple_of (by rfl) B.tuple boot_tuple (da_cons (de_lc rfl (pe_lc (own := [("hand", 9)]) (g := tG _ [0, 1, 2, 3, 4, 5, 6, 7, 8, 10, 11] _) rfl sc_is_done_apart.nd (di_list (de_var (pv 3))) (blkOk_by (own := [("hand", 9)]) (by kernel_rfl)) (fun _ _ _ _ _ => (dg_name (pg_name (i := 9) sc_is_done_apart.nd rfl (by first | exact Or.inl rfl | exact Or.inr rfl)) (by decide))) (fun _ _ _ _ _ => dts_0) (fun _ _ _ _ _ => (de_ofV (dv_ixU (room1 hr) (dv_var (pv 5)) (dv_var (pv 9)) (fun _ _ => rfl)))))) da_nil)) vTuple)) (by decide))
      (dss_cons (ds_set (ps_set (i := 11) sc_is_done_apart.nd rfl (by first | exact Or.inl rfl | exact Or.inr rfl) (de_callB (pe_callTy call_tuple_of (by rfl) B.tuple boot_tuple (da_cons (de_lc rfl (pe_lc (own := [("hand", 9)]) (g := tG _ [0, 1, 2, 3, 4, 5, 6, 7, 8, 10, 11] _) rfl sc_is_done_apart.nd (di_list (de_var (pv 3))) (blkOk_by (own := [("hand", 9)]) (by kernel_rfl)) (fun _ _ _ _ _ => (dg_name (pg_name (i := 9) sc_is_done_apart.nd rfl (by first | exact Or.inl rfl | exact Or.inr rfl)) (by decide))) (fun _ _ _ _ _ => dts_0) (fun _ _ _ _ _ => (de_ofV (dv_ixU (room1 hr) (dv_var (pv 8)) (dv_var (pv 9)) (fun _ _ => rfl)))))) da_nil)) vTuple)) (by decide))
      (dss_cons (ds_if (PW.pt (dw_and (dt_cmpV (op_inU (room65 hr)) vIn (dv_var (pv 10)) (dv_var (pv 4)) rfl) (dw_and1 (dt_cmpV (op_neU (room64 hr)) vNe (dv_ixU (room1 hr) (dv_var (pv 4)) (dv_var (pv 10)) (fun _ _ => rfl)) (dv_var (pv 11)) (nomark _)))))
      (dss_one (ds_ret (de_k pe_bl fun _ _ => .bl)))
      dss_nil)
      (dss_one (ds_putD (ps_asg (de_var (pv 11)) (pg_sub (pv 4) (de_var (pv 10)) (set_dict (room1 hr))))))))))))
      (dss_one (ds_ret (de_k pe_bl fun _ _ => .bl))))))
theorem ok_is_table_of {f : Addr} {fd : FuncData} (F : Fun K "is_table_of" "is_table_of" s_is_table_of f fd) (hm : mg "is_table_of" = some (.ref f)) (B : Bi mg) (C_is_done_apart : Cal P w K mg base RX "is_done_apart" 1 (List.replicate 3 false) m_is_done_apart) (C_is_entry_tables : Cal P w K mg base RX "is_entry_tables" 2 (List.replicate 3 false) m_is_entry_tables) : Cal P w K mg base RX "is_table_of" 3 (List.replicate 2 false) m_is_table_of := by
  refine ⟨f, fd, ["house", "thing"], fn_ok (k := 2) F sc_is_table_of rfl rfl fun cdv A outer s H E hr => ?_, hm, F.kp, F.binds fun _ _ _ _ _ _ us hl => match us, hl with | [_, _], _ => rfl⟩
  unfold b_is_table_of
  exact (dss_cons (ds_if (PW.pt (dw_or (dt_not (dt_valV (dv_callB (pe_callB call_isi (by rfl) B.isinstance boot_isinstance (dav_cons (dv_var (pv 1)) (dav_cons (dv_k (pe_bltn (v := .ty "list") (by rfl) B.list PyProof.Rows.boot_list rfl) fun _ _ => .gv) dav_nil))) vIsi))) (dw_or1 (dt_not (dt_chain op_leU vLe op_leU vLe (de_k pe_int fun _ _ => .int) (de_ofV (dv_callB (pe_callB call_lenU (by rfl) B.len boot_len (dav_cons (dv_var (pv 1)) dav_nil)) vLen)) (de_k (pe_globI (by rfl) B.c_MOST) fun _ _ => .int))))))
      (dss_one (ds_ret (de_k pe_bl fun _ _ => .bl)))
      dss_nil)
      (dss_cons (ds_if (dt_not (dt_val (de_callB (pe_callB (cr_all rfl) (by rfl) B.all boot_all (da_cons (de_lc rfl (pe_lc (own := [("entry", 3)]) (g := tG _ [0, 1, 2, 4] _) rfl sc_is_table_of.nd (di_list (de_var (pv 1))) (blkOk_by (own := [("entry", 3)]) (by kernel_rfl)) (fun _ _ _ _ _ => (dg_name (pg_name (i := 3) sc_is_table_of.nd rfl (by first | exact Or.inl rfl | exact Or.inr rfl)) (by decide))) (fun _ _ _ _ _ => dts_0) (fun _ _ _ _ _ => (de_callC C_is_entry_tables hr (by decide) rfl takesN0 (da_cons (de_var (pv 0)) (da_cons (de_var (pv 3)) (da_cons (de_ofV (dv_callB (pe_callB call_lenU (by rfl) B.len boot_len (dav_cons (dv_var (pv 1)) dav_nil)) vLen)) da_nil))))))) da_nil)) vAll)))
      (dss_one (ds_ret (de_k pe_bl fun _ _ => .bl)))
      dss_nil)
      (dss_cons (ds_set (ps_set (i := 2) sc_is_table_of.nd rfl (by first | exact Or.inl rfl | exact Or.inr rfl) de_dnewT) (by decide))
      (dss_cons (ds_for (passes_of rfl) rfl (di_list (de_var (pv 1))) (dg_name (pg_name (i := 3) sc_is_table_of.nd rfl (by first | exact Or.inl rfl | exact Or.inr rfl)) (by decide))
      (dss_one (ds_putD (ps_asg (de_k pe_bl fun _ _ => .bl) (pg_sub (pv 2) (de_ofV (dv_ixU (room1 hr) (dv_var (pv 3)) (dv_k pe_int fun _ _ => .int) (fun _ _ => rfl))) (set_dict (room1 hr)))))))
      (dss_cons (ds_if (dt_cmpV op_ltU vLt (dv_callB (pe_callB call_lenT (by rfl) B.len boot_len (dav_cons (dv_var (pv 2)) dav_nil)) vLenT) (dv_callB (pe_callB call_lenU (by rfl) B.len boot_len (dav_cons (dv_var (pv 1)) dav_nil)) vLen) (nomark _))
      (dss_one (ds_ret (de_k pe_bl fun _ _ => .bl)))
      dss_nil)
      (dss_one (ds_ret (de_callB (pe_callB (cr_all rfl) (by rfl) B.all boot_all (da_cons (de_lc rfl (pe_lc (own := [("k", 4)]) (g := tG _ [0, 1, 2, 3] _) rfl sc_is_table_of.nd (di_range1 (by rfl) B.range (da_cons (de_ofV (dv_callB (pe_callB call_lenU (by rfl) B.len boot_len (dav_cons (dv_ixU (room1 hr) (dv_var (pv 0)) (dv_k pe_int fun _ _ => .int) (fun _ _ => rfl)) dav_nil)) vLen)) da_nil)) (blkOk_by (own := [("k", 4)]) (by kernel_rfl)) (fun _ _ _ _ _ => (dg_name (pg_name (i := 4) sc_is_table_of.nd rfl (by first | exact Or.inl rfl | exact Or.inr rfl)) (by decide))) (fun _ _ _ _ _ => dts_0) (fun _ _ _ _ _ => (de_callC C_is_done_apart hr (by decide) rfl takesN0 (da_cons (de_var (pv 0)) (da_cons (de_var (pv 1)) (da_cons (de_var (pv 4)) da_nil))))))) da_nil)) vAll))))))))
theorem ok_row_apart {f : Addr} {fd : FuncData} (F : Fun K "row_apart" "row_apart" s_row_apart f fd) (hm : mg "row_apart" = some (.ref f)) (B : Bi mg) (C_is_table_of : Cal P w K mg base RX "is_table_of" 3 (List.replicate 2 false) m_is_table_of) (C_look_machine : Cal P w K mg base RX "look_machine" 7 (List.replicate 2 false) m_look_machine) (C_look_house : Cal P w K mg base RX "look_house" 5 (List.replicate 1 false) m_look_house) : Cal P w K mg base RX "row_apart" 8 (List.replicate 3 false) m_row_apart := by
  refine ⟨f, fd, ["house", "machine", "table"], fn_ok (k := 7) F sc_row_apart rfl rfl fun cdv A outer s H E hr => ?_, hm, F.kp, F.binds fun _ _ _ _ _ _ us hl => match us, hl with | [_, _, _], _ => rfl⟩
  unfold b_row_apart
  exact (dss_cons (ds_drop (ps_expr (de_callC C_look_house hr (by decide) rfl (L2N.takes_of rfl rfl rfl rfl) (da_cons (de_var (pv 0)) da_nil))))
      (dss_cons (ds_drop (ps_expr (de_callC C_look_machine hr (by decide) rfl (L2N.takes_of rfl rfl rfl rfl) (da_cons (de_var (pv 0)) (da_cons (de_var (pv 1)) da_nil)))))
      (dss_cons (ds_if (dt_not (dt_val (de_callC C_is_table_of hr (by decide) rfl (L2N.takes_of rfl rfl rfl rfl) (da_cons (de_var (pv 0)) (da_cons (de_var (pv 2)) da_nil)))))
      (dss_one ds_stk)
      dss_nil)
      (dss_cons (ds_asg (ps_asg (de_var (pv 1)) (dg_tup rfl (dgs_cons (dg_name (pg_name (i := 3) sc_row_apart.nd rfl (by first | exact Or.inl rfl | exact Or.inr rfl)) (by decide)) (dgs_cons (dg_name (pg_name (i := 4) sc_row_apart.nd rfl (by first | exact Or.inl rfl | exact Or.inr rfl)) (by decide)) dgs_nil)))))
      (dss_cons (ds_set (ps_set (i := 5) sc_row_apart.nd rfl (by first | exact Or.inl rfl | exact Or.inr rfl) (de_d1T (Nat.lt_of_succ_lt (room1 hr)) (de_tup (da_cons (de_k pe_int fun _ _ => .int) (da_cons (de_k pe_int fun _ _ => .int) da_nil))) (de_k pe_bl fun _ _ => .bl))) (by decide))
      (dss_cons (ds_set (ps_set (i := 6) sc_row_apart.nd rfl (by first | exact Or.inl rfl | exact Or.inr rfl) (de_lst (da_cons (de_tup (da_cons (de_k pe_int fun _ _ => .int) (da_cons (de_k pe_int fun _ _ => .int) (da_cons (de_k pe_str fun _ _ => .str) da_nil)))) da_nil))) (by decide))
      (dss_cons (ds_while (passes_of rfl) (dt_cmpV op_gtU vGt (dv_callB (pe_callB call_lenU (by rfl) B.len boot_len (dav_cons (dv_var (pv 6)) dav_nil)) vLen) (dv_k pe_int fun _ _ => .int) (nomark _))
      (dss_cons (ds_asg (ps_asg (de_popA (pe_bm PySem.F.plainAttrs_list PySem.F.slot_list_pop PySem.F.type_list_pop mt_popAt (pv 6) (da_cons (de_k pe_int fun _ _ => .int) da_nil))) (dg_tup rfl (dgs_cons (dg_name (pg_name (i := 7) sc_row_apart.nd rfl (by first | exact Or.inl rfl | exact Or.inr rfl)) (by decide)) (dgs_cons (dg_name (pg_name (i := 8) sc_row_apart.nd rfl (by first | exact Or.inl rfl | exact Or.inr rfl)) (by decide)) (dgs_cons (dg_name (pg_name (i := 9) sc_row_apart.nd rfl (by first | exact Or.inl rfl | exact Or.inr rfl)) (by decide)) dgs_nil))))))
      (dss_cons (ds_if (dt_cmpV (op_neU (room64 hr)) vNe (dv_cmp (op_inU (room65 hr)) vIn (dv_var (pv 7)) (dv_var (pv 4)) rfl) (dv_ixU (room1 hr) (dv_ixU (room1 hr) (dv_var (pv 2)) (dv_var (pv 8)) (fun _ _ => rfl)) (dv_k pe_int fun _ _ => .int) (fun _ _ => rfl)) (nomark _))
      (dss_one (ds_ret (de_mv (pv 9))))
      dss_nil)
      (dss_one (ds_for (passes_of rfl) rfl (di_enum (by rfl) B.enumerate (da_cons (de_ofV (dv_ixU (room1 hr) (dv_var (pv 0)) (dv_k pe_int fun _ _ => .int) (fun _ _ => rfl))) da_nil)) (dg_tup rfl (dgs_cons (dg_name (pg_name (i := 10) sc_row_apart.nd rfl (by first | exact Or.inl rfl | exact Or.inr rfl)) (by decide)) (dgs_cons (dg_name (pg_name (i := 11) sc_row_apart.nd rfl (by first | exact Or.inl rfl | exact Or.inr rfl)) (by decide)) dgs_nil)))
      (dss_cons (ds_set (ps_set (i := 12) sc_row_apart.nd rfl (by first | exact Or.inl rfl | exact Or.inr rfl) (de_tup (da_cons (de_ofV (dv_ixU (room1 hr) (dv_ixU (room1 hr) (dv_var (pv 3)) (dv_var (pv 7)) (fun _ _ => rfl)) (dv_var (pv 10)) (fun _ _ => rfl))) (da_cons (de_ofV (dv_ixU (room1 hr) (dv_ixU (room1 hr) (dv_ixU (room1 hr) (dv_var (pv 2)) (dv_var (pv 8)) (fun _ _ => rfl)) (dv_k pe_int fun _ _ => .int) (fun _ _ => rfl)) (dv_var (pv 10)) (fun _ _ => rfl))) da_nil)))) (by decide))
      (dss_one (ds_if (dt_cmpV (op_ninU (room65 hr)) vNin (dv_var (pv 12)) (dv_var (pv 5)) rfl)
      (dss_cons (ds_putD (ps_asg (de_k pe_bl fun _ _ => .bl) (pg_sub (pv 5) (de_var (pv 12)) (set_dict (room1 hr)))))
      (dss_one (ds_append (ps_expr (pe_bm PySem.F.plainAttrs_list PySem.F.slot_list_append PySem.F.type_list_append mt_append (pv 6) (da_cons (de_tup (da_cons (de_ofV (dv_ixU (room1 hr) (dv_var (pv 12)) (dv_k pe_int fun _ _ => .int) (fun _ _ => rfl))) (da_cons (de_ofV (dv_ixU (room1 hr) (dv_var (pv 12)) (dv_k pe_int fun _ _ => .int) (fun _ _ => rfl))) (da_cons (de_ofV (dv_op op_addU vAdd (dv_var (pv 9)) (dv_ixU (room1 hr) (dv_var (pv 11)) (dv_k pe_int fun _ _ => .int) (fun _ _ => rfl)))) da_nil)))) da_nil))))))
      dss_nil))))))))
      (dss_one (ds_ret (de_k pe_non fun _ _ => .non))))))))))
theorem ok_law_fn {f : Addr} {fd : FuncData} (F : Fun K "law" "law" s_law f fd) (B : Bi mg) (C_row_apart : Cal P w K mg base RX "row_apart" 8 (List.replicate 3 false) m_row_apart) (C__law_apart : Cal P w K mg base RX "_law_apart" 1 (List.replicate 3 false) m__law_apart) (C__law_take : Cal P w K mg base RX "_law_take" 1 (true :: List.replicate 1 false) m__law_take) (C__law_machine : Cal P w K mg base RX "_law_machine" 2 (true :: List.replicate 2 false) m__law_machine) (C__law_bag : Cal P w K mg base RX "_law_bag" 1 (List.replicate 1 false) m__law_bag) (C__law_cell : Cal P w K mg base RX "_law_cell" 1 (List.replicate 2 false) m__law_cell) (C__law_drawn_table : Cal P w K mg base RX "_law_drawn_table" 2 (true :: List.replicate 1 false) m__law_drawn_table) (C__law_house : Cal P w K mg base RX "_law_house" 2 (true :: List.replicate 0 false) m__law_house) : FnOk P w K mg base (L2N.CX P w) 9 f fd ["_law_script"] (spD K RX (List.replicate 1 false) m_law) := by
  refine fn_ok (k := 8) F sc_law rfl rfl fun cdv A outer s H E hr => ?_
  unfold b_law
  exact (dss_cons (ds_set (ps_set (i := 1) sc_law.nd rfl (by first | exact Or.inl rfl | exact Or.inr rfl) (de_callFC C__law_house hr (by decide) rfl (L2N.takes_of rfl rfl rfl rfl) (da_cons (de_callC C__law_bag hr (by decide) rfl (L2N.takes_of rfl rfl rfl rfl) (da_cons (de_callC C__law_cell hr (by decide) rfl (L2N.takes_of rfl rfl rfl rfl) (da_cons (de_var (pv 0)) (da_cons (de_k pe_int fun _ _ => .int) da_nil))) da_nil)) da_nil))) (by decide))
      (dss_cons (ds_set (ps_set (i := 2) sc_law.nd rfl (by first | exact Or.inl rfl | exact Or.inr rfl) (de_callFC C__law_drawn_table hr (by decide) rfl (L2N.takes_of rfl rfl rfl rfl) (da_cons (de_callC C__law_bag hr (by decide) rfl (L2N.takes_of rfl rfl rfl rfl) (da_cons (de_callC C__law_cell hr (by decide) rfl (L2N.takes_of rfl rfl rfl rfl) (da_cons (de_var (pv 0)) (da_cons (de_k pe_int fun _ _ => .int) da_nil))) da_nil)) (da_cons (de_var (pv 1)) da_nil)))) (by decide))
      (dss_cons (ds_set (ps_set (i := 3) sc_law.nd rfl (by first | exact Or.inl rfl | exact Or.inr rfl) (de_callC C__law_bag hr (by decide) rfl (L2N.takes_of rfl rfl rfl rfl) (da_cons (de_callC C__law_cell hr (by decide) rfl (L2N.takes_of rfl rfl rfl rfl) (da_cons (de_var (pv 0)) (da_cons (de_k pe_int fun _ _ => .int) da_nil))) da_nil))) (by decide))
      (dss_cons (ds_set (ps_set (i := 4) sc_law.nd rfl (by first | exact Or.inl rfl | exact Or.inr rfl) (de_callIOC C__law_take hr (by decide) rfl (L2N.takes_of rfl rfl rfl rfl) (pv 3) (da_cons (de_k pe_int fun _ _ => .int) da_nil))) (by decide))
      (dss_cons (ds_set (ps_set (i := 5) sc_law.nd rfl (by first | exact Or.inl rfl | exact Or.inr rfl) (de_fz (de_callIOC C__law_machine hr (by decide) rfl (L2N.takes_of rfl rfl rfl rfl) (pv 3) (da_cons (de_var (pv 1)) (da_cons (de_k pe_int fun _ _ => .int) da_nil))))) (by decide))
      (dss_cons (ds_if (PW.pt (dw_and (dt_cmpV (op_eqU (room64 hr)) vEq (dv_var (pv 4)) (dv_k pe_int fun _ _ => .int) (nomark _)) (dw_and1 (dt_cmpV op_ltU vLt (dv_callB (pe_callB call_lenU (by rfl) B.len boot_len (dav_cons (dv_var (pv 2)) dav_nil)) vLen) (dv_k pe_int fun _ _ => .int) (nomark _)))))
      (dss_cons (ds_setLc rfl (ps_setLc (i := 6) (own := [("_law_memories", 11), ("_law_good", 12), ("_law_follows", 13)]) (g := tG _ [0, 1, 2, 3, 4, 5, 6, 7, 8, 9, 10, 14, 15] _) rfl sc_law.nd rfl rfl (sw_true rfl rfl rfl (by decide +kernel)) (di_list (de_var (pv 2))) (blkOk_by (own := [("_law_memories", 11), ("_law_good", 12), ("_law_follows", 13)]) (by kernel_rfl)) (fun _ _ _ _ _ => (dg_tup rfl (dgs_cons (dg_name (pg_name (i := 11) sc_law.nd rfl (by first | exact Or.inl rfl | exact Or.inr rfl)) (by decide)) (dgs_cons (dg_name (pg_name (i := 12) sc_law.nd rfl (by first | exact Or.inl rfl | exact Or.inr rfl)) (by decide)) (dgs_cons (dg_name (pg_name (i := 13) sc_law.nd rfl (by first | exact Or.inl rfl | exact Or.inr rfl)) (by decide)) dgs_nil))))) (fun _ _ _ _ _ => dts_0) (fun _ _ _ _ _ => (de_callB (pe_callTy call_list_of (by rfl) B.list boot_list (da_cons (de_var (pv 13)) da_nil)) vList))) (by decide))
      (dss_cons (ds_setLc rfl (ps_setLc (i := 7) (own := [("_law_k", 14)]) (g := tG _ [0, 1, 2, 3, 4, 5, 6, 7, 8, 9, 10, 11, 12, 13, 15] _) rfl sc_law.nd rfl rfl (sw_true rfl rfl rfl (by decide +kernel)) (di_range1 (by rfl) B.range (da_cons (de_ofV (dv_callB (pe_callB call_lenU (by rfl) B.len boot_len (dav_cons (dv_var (pv 2)) dav_nil)) vLen)) da_nil)) (blkOk_by (own := [("_law_k", 14)]) (by kernel_rfl)) (fun _ _ _ _ _ => (dg_name (pg_name (i := 14) sc_law.nd rfl (by first | exact Or.inl rfl | exact Or.inr rfl)) (by decide))) (fun _ _ _ _ _ => (dts_one (dt_valV (dv_ixU (room1 hr) (dv_ixU (room1 hr) (dv_var (pv 2)) (dv_var (pv 14)) (fun _ _ => rfl)) (dv_k pe_int fun _ _ => .int) (fun _ _ => rfl))))) (fun _ _ _ _ _ => (de_var (pv 14)))) (by decide))
      (dss_cons (ds_if (PW.pt (dw_and (dt_cmpV (op_neU (room64 hr)) vNe (dv_var (pv 7)) (dv_lst dav_nil) (nomark _)) (dw_and1 (dt_cmpEV (op_eqU (room64 hr)) vEq (de_callIOC C__law_take hr (by decide) rfl (L2N.takes_of rfl rfl rfl rfl) (pv 3) (da_cons (de_k pe_int fun _ _ => .int) da_nil)) (dv_k pe_int fun _ _ => .int) (nomark _)))))
      (dss_one (ds_drop (ps_expr (de_popA (pe_bm PySem.F.plainAttrs_list PySem.F.slot_list_pop PySem.F.type_list_pop mt_popAt (pv 7) (da_cons (de_callIOC C__law_take hr (by decide) rfl (L2N.takes_of rfl rfl rfl rfl) (pv 3) (da_cons (de_ofV (dv_callB (pe_callB call_lenU (by rfl) B.len boot_len (dav_cons (dv_var (pv 7)) dav_nil)) vLen)) da_nil)) da_nil))))))
      dss_nil)
      (dss_one (ds_set (ps_set (i := 5) sc_law.nd rfl (by first | exact Or.inl rfl | exact Or.inr rfl) (de_fz (de_tup (da_cons (de_var (pv 6)) (da_cons (de_var (pv 7)) da_nil))))) (by decide))))))
      dss_nil)
      (dss_cons (ds_set (ps_set (i := 8) sc_law.nd rfl (by first | exact Or.inl rfl | exact Or.inr rfl) (de_tup (da_cons (de_callB (pe_callTy call_list_of (by rfl) B.list boot_list (da_cons (de_var (pv 2)) da_nil)) vList) (da_cons (de_tup (da_cons (de_lc rfl (pe_lc (own := [("_law_line", 15)]) (g := tG _ [0, 1, 2, 3, 4, 5, 6, 7, 8, 9, 10, 11, 12, 13, 14] _) rfl sc_law.nd (di_list (de_ofV (dv_ixU (room1 hr) (dv_var (pv 5)) (dv_k pe_int fun _ _ => .int) (fun _ _ => rfl)))) (blkOk_by (own := [("_law_line", 15)]) (by kernel_rfl)) (fun _ _ _ _ _ => (dg_name (pg_name (i := 15) sc_law.nd rfl (by first | exact Or.inl rfl | exact Or.inr rfl)) (by decide))) (fun _ _ _ _ _ => dts_0) (fun _ _ _ _ _ => (de_callB (pe_callTy call_list_of (by rfl) B.list boot_list (da_cons (de_var (pv 15)) da_nil)) vList)))) (da_cons (de_callB (pe_callTy call_list_of (by rfl) B.list boot_list (da_cons (de_ofV (dv_ixU (room1 hr) (dv_var (pv 5)) (dv_k pe_int fun _ _ => .int) (fun _ _ => rfl))) da_nil)) vList) da_nil))) da_nil)))) (by decide))
      (dss_cons (ds_set (ps_set (i := 9) sc_law.nd rfl (by first | exact Or.inl rfl | exact Or.inr rfl) (de_callC C__law_apart hr (by decide) rfl (L2N.takes_of rfl rfl rfl rfl) (da_cons (de_var (pv 1)) (da_cons (de_var (pv 5)) (da_cons (de_var (pv 2)) da_nil))))) (by decide))
      (dss_cons (ds_set (ps_set (i := 10) sc_law.nd rfl (by first | exact Or.inl rfl | exact Or.inr rfl) (de_callC C_row_apart hr (by decide) rfl (L2N.takes_of rfl rfl rfl rfl) (da_cons (de_var (pv 1)) (da_cons (de_var (pv 5)) (da_cons (de_var (pv 2)) da_nil))))) (by decide))
      (dss_cons (ds_if (PW.pt (dw_or (PW.pt (dw_and (dt_cmpV op_isU vIs (dv_var (pv 9)) (dv_k pe_non fun _ _ => .non) (nomark _)) (dw_and1 (dt_cmpV op_isnU vIsn (dv_var (pv 10)) (dv_k pe_non fun _ _ => .non) (nomark _))))) (dw_or1 (PW.pt (dw_and (dt_cmpV op_isnU vIsn (dv_var (pv 9)) (dv_k pe_non fun _ _ => .non) (nomark _)) (dw_and1 (PW.pt (dw_or (dt_not (dt_valV (dv_callB (pe_callB call_isi (by rfl) B.isinstance boot_isinstance (dav_cons (dv_var (pv 10)) (dav_cons (dv_k (pe_bltn (v := .ty "str") (by rfl) B.str boot_str rfl) fun _ _ => .gv) dav_nil))) vIsi))) (dw_or1 (dt_cmpV (op_neU (room64 hr)) vNe (dv_var (pv 10)) (dv_var (pv 9)) (nomark _)))))))))))
      (dss_one (ds_ret (de_k pe_bl fun _ _ => .bl)))
      dss_nil)
      (dss_one (ds_ret (de_ofV (dv_cmp (op_eqU (room64 hr)) vEq (dv_tup (dav_cons (dv_var (pv 2)) (dav_cons (dv_var (pv 5)) dav_nil))) (dv_var (pv 8)) (nomark _)))))))))))))))
end
set_option maxHeartbeats 4000000 in
theorem all_mk {P : Program} {w : World} {K : PySem.W.Frag} {h : Heap} {mg : Str → Option Value} {fa f0 f1 f2 f3 f4 f5 f6 f7 f8 f9 f10 f11 f12 f13 f14 f15 f16 f17 f18 f19 f20 : Addr} (X : K.In h) (G : h.Ns mainGlobals mg) (hfa : mg "law" = some (.ref fa)) {od0 od1 od2 od3 od4 od5 od6 od7 od8 od9 od10 od11 od12 od13 od14 od15 od16 od17 od18 od19 od20 an0 an1 an2 an3 an4 an5 an6 an7 an8 an9 an10 an11 an12 an13 an14 an15 an16 an17 an18 an19 an20 : Option Addr} {sl0 sl1 sl2 sl3 sl4 sl5 sl6 sl7 sl8 sl9 sl10 sl11 sl12 sl13 sl14 sl15 sl16 sl17 sl18 sl19 sl20 : Array (Option Value)} {oc0 oc1 oc2 oc3 oc4 oc5 oc6 oc7 oc8 oc9 oc10 oc11 oc12 oc13 oc14 oc15 oc16 oc17 oc18 oc19 oc20 kV0 kV1 kV2 kV3 kV4 kV5 kV6 kV7 kV8 kV9 kV10 kV11 kV12 kV13 kV14 kV15 kV16 kV17 kV18 kV19 kV20 dc0 dc1 dc2 dc3 dc4 dc5 dc6 dc7 dc8 dc9 dc10 dc11 dc12 dc13 dc14 dc15 dc16 dc17 dc18 dc19 dc20 pm0 pm1 pm2 pm3 pm4 pm5 pm6 pm7 pm8 pm9 pm10 pm11 pm12 pm13 pm14 pm15 pm16 pm17 pm18 pm19 pm20 cd0 cd1 cd2 cd3 cd4 cd5 cd6 cd7 cd8 cd9 cd10 cd11 cd12 cd13 cd14 cd15 cd16 cd17 cd18 cd19 cd20 ct0 ct1 ct2 ct3 ct4 ct5 ct6 ct7 ct8 ct9 ct10 ct11 ct12 ct13 ct14 ct15 ct16 ct17 ct18 ct19 ct20 : Value} {t_LETTERS t_FEWEST_HANDS t_MOST_HANDS t_MOST_LETTERS t_MOST_ROOMS t_MOST : Tok} 
    (a0 : PySem.W.nsIn K mainGlobals "_law_take" = some (some (.ref f0))) (l0 : K.lookup f0 = some ⟨oc0, od0, .func (PySem.W.fnOf "_law_take" "_law_take" (defArgs s__law_take) (defBody s__law_take) (defScope s__law_take) .none kV0 dc0 pm0 an0 cd0 ct0), sl0⟩) (c0 : PySem.W.codeIn K cd0 "_law_take" = true) (k0 : PySem.W.keepIn K (.ref f0) = true)
    (a1 : PySem.W.nsIn K mainGlobals "_law_house" = some (some (.ref f1))) (l1 : K.lookup f1 = some ⟨oc1, od1, .func (PySem.W.fnOf "_law_house" "_law_house" (defArgs s__law_house) (defBody s__law_house) (defScope s__law_house) .none kV1 dc1 pm1 an1 cd1 ct1), sl1⟩) (c1 : PySem.W.codeIn K cd1 "_law_house" = true) (k1 : PySem.W.keepIn K (.ref f1) = true)
    (a2 : PySem.W.nsIn K mainGlobals "_law_bag" = some (some (.ref f2))) (l2 : K.lookup f2 = some ⟨oc2, od2, .func (PySem.W.fnOf "_law_bag" "_law_bag" (defArgs s__law_bag) (defBody s__law_bag) (defScope s__law_bag) .none kV2 dc2 pm2 an2 cd2 ct2), sl2⟩) (c2 : PySem.W.codeIn K cd2 "_law_bag" = true) (k2 : PySem.W.keepIn K (.ref f2) = true)
    (a3 : PySem.W.nsIn K mainGlobals "_law_cell" = some (some (.ref f3))) (l3 : K.lookup f3 = some ⟨oc3, od3, .func (PySem.W.fnOf "_law_cell" "_law_cell" (defArgs s__law_cell) (defBody s__law_cell) (defScope s__law_cell) .none kV3 dc3 pm3 an3 cd3 ct3), sl3⟩) (c3 : PySem.W.codeIn K cd3 "_law_cell" = true) (k3 : PySem.W.keepIn K (.ref f3) = true)
    (a4 : PySem.W.nsIn K mainGlobals "_law_drawn_table" = some (some (.ref f4))) (l4 : K.lookup f4 = some ⟨oc4, od4, .func (PySem.W.fnOf "_law_drawn_table" "_law_drawn_table" (defArgs s__law_drawn_table) (defBody s__law_drawn_table) (defScope s__law_drawn_table) .none kV4 dc4 pm4 an4 cd4 ct4), sl4⟩) (c4 : PySem.W.codeIn K cd4 "_law_drawn_table" = true) (k4 : PySem.W.keepIn K (.ref f4) = true)
    (a5 : PySem.W.nsIn K mainGlobals "_law_machine" = some (some (.ref f5))) (l5 : K.lookup f5 = some ⟨oc5, od5, .func (PySem.W.fnOf "_law_machine" "_law_machine" (defArgs s__law_machine) (defBody s__law_machine) (defScope s__law_machine) .none kV5 dc5 pm5 an5 cd5 ct5), sl5⟩) (c5 : PySem.W.codeIn K cd5 "_law_machine" = true) (k5 : PySem.W.keepIn K (.ref f5) = true)
    (a6 : PySem.W.nsIn K mainGlobals "_law_apart" = some (some (.ref f6))) (l6 : K.lookup f6 = some ⟨oc6, od6, .func (PySem.W.fnOf "_law_apart" "_law_apart" (defArgs s__law_apart) (defBody s__law_apart) (defScope s__law_apart) .none kV6 dc6 pm6 an6 cd6 ct6), sl6⟩) (c6 : PySem.W.codeIn K cd6 "_law_apart" = true) (k6 : PySem.W.keepIn K (.ref f6) = true)
    (a7 : PySem.W.nsIn K mainGlobals "is_whole" = some (some (.ref f7))) (l7 : K.lookup f7 = some ⟨oc7, od7, .func (PySem.W.fnOf "is_whole" "is_whole" (defArgs s_is_whole) (defBody s_is_whole) (defScope s_is_whole) .none kV7 dc7 pm7 an7 cd7 ct7), sl7⟩) (c7 : PySem.W.codeIn K cd7 "is_whole" = true) (k7 : PySem.W.keepIn K (.ref f7) = true)
    (a8 : PySem.W.nsIn K mainGlobals "is_sign" = some (some (.ref f8))) (l8 : K.lookup f8 = some ⟨oc8, od8, .func (PySem.W.fnOf "is_sign" "is_sign" (defArgs s_is_sign) (defBody s_is_sign) (defScope s_is_sign) .none kV8 dc8 pm8 an8 cd8 ct8), sl8⟩) (c8 : PySem.W.codeIn K cd8 "is_sign" = true) (k8 : PySem.W.keepIn K (.ref f8) = true)
    (a9 : PySem.W.nsIn K mainGlobals "is_rising" = some (some (.ref f9))) (l9 : K.lookup f9 = some ⟨oc9, od9, .func (PySem.W.fnOf "is_rising" "is_rising" (defArgs s_is_rising) (defBody s_is_rising) (defScope s_is_rising) .none kV9 dc9 pm9 an9 cd9 ct9), sl9⟩) (c9 : PySem.W.codeIn K cd9 "is_rising" = true) (k9 : PySem.W.keepIn K (.ref f9) = true)
    (a10 : PySem.W.nsIn K mainGlobals "is_entry_houses" = some (some (.ref f10))) (l10 : K.lookup f10 = some ⟨oc10, od10, .func (PySem.W.fnOf "is_entry" "is_entry" (defArgs s_is_entry) (defBody s_is_entry) (defScope s_is_entry) .none kV10 dc10 pm10 an10 cd10 ct10), sl10⟩) (c10 : PySem.W.codeIn K cd10 "is_entry" = true) (k10 : PySem.W.keepIn K (.ref f10) = true)
    (a11 : PySem.W.nsIn K mainGlobals "is_house" = some (some (.ref f11))) (l11 : K.lookup f11 = some ⟨oc11, od11, .func (PySem.W.fnOf "is_house" "is_house" (defArgs s_is_house) (defBody s_is_house) (defScope s_is_house) .none kV11 dc11 pm11 an11 cd11 ct11), sl11⟩) (c11 : PySem.W.codeIn K cd11 "is_house" = true) (k11 : PySem.W.keepIn K (.ref f11) = true)
    (a12 : PySem.W.nsIn K mainGlobals "look_house" = some (some (.ref f12))) (l12 : K.lookup f12 = some ⟨oc12, od12, .func (PySem.W.fnOf "look_house" "look_house" (defArgs s_look_house) (defBody s_look_house) (defScope s_look_house) .none kV12 dc12 pm12 an12 cd12 ct12), sl12⟩) (c12 : PySem.W.codeIn K cd12 "look_house" = true) (k12 : PySem.W.keepIn K (.ref f12) = true)
    (a13 : PySem.W.nsIn K mainGlobals "is_line" = some (some (.ref f13))) (l13 : K.lookup f13 = some ⟨oc13, od13, .func (PySem.W.fnOf "is_line" "is_line" (defArgs s_is_line) (defBody s_is_line) (defScope s_is_line) .none kV13 dc13 pm13 an13 cd13 ct13), sl13⟩) (c13 : PySem.W.codeIn K cd13 "is_line" = true) (k13 : PySem.W.keepIn K (.ref f13) = true)
    (a14 : PySem.W.nsIn K mainGlobals "is_machine" = some (some (.ref f14))) (l14 : K.lookup f14 = some ⟨oc14, od14, .func (PySem.W.fnOf "is_machine" "is_machine" (defArgs s_is_machine) (defBody s_is_machine) (defScope s_is_machine) .none kV14 dc14 pm14 an14 cd14 ct14), sl14⟩) (c14 : PySem.W.codeIn K cd14 "is_machine" = true) (k14 : PySem.W.keepIn K (.ref f14) = true)
    (a15 : PySem.W.nsIn K mainGlobals "look_machine" = some (some (.ref f15))) (l15 : K.lookup f15 = some ⟨oc15, od15, .func (PySem.W.fnOf "look_machine" "look_machine" (defArgs s_look_machine) (defBody s_look_machine) (defScope s_look_machine) .none kV15 dc15 pm15 an15 cd15 ct15), sl15⟩) (c15 : PySem.W.codeIn K cd15 "look_machine" = true) (k15 : PySem.W.keepIn K (.ref f15) = true)
    (a16 : PySem.W.nsIn K mainGlobals "is_entry_tables" = some (some (.ref f16))) (l16 : K.lookup f16 = some ⟨oc16, od16, .func (PySem.W.fnOf "is_entry" "is_entry" (defArgs s_is_entry_tables) (defBody s_is_entry_tables) (defScope s_is_entry_tables) .none kV16 dc16 pm16 an16 cd16 ct16), sl16⟩) (c16 : PySem.W.codeIn K cd16 "is_entry" = true) (k16 : PySem.W.keepIn K (.ref f16) = true)
    (a17 : PySem.W.nsIn K mainGlobals "is_done_apart" = some (some (.ref f17))) (l17 : K.lookup f17 = some ⟨oc17, od17, .func (PySem.W.fnOf "is_done_apart" "is_done_apart" (defArgs s_is_done_apart) (defBody s_is_done_apart) (defScope s_is_done_apart) .none kV17 dc17 pm17 an17 cd17 ct17), sl17⟩) (c17 : PySem.W.codeIn K cd17 "is_done_apart" = true) (k17 : PySem.W.keepIn K (.ref f17) = true)
    (a18 : PySem.W.nsIn K mainGlobals "is_table_of" = some (some (.ref f18))) (l18 : K.lookup f18 = some ⟨oc18, od18, .func (PySem.W.fnOf "is_table_of" "is_table_of" (defArgs s_is_table_of) (defBody s_is_table_of) (defScope s_is_table_of) .none kV18 dc18 pm18 an18 cd18 ct18), sl18⟩) (c18 : PySem.W.codeIn K cd18 "is_table_of" = true) (k18 : PySem.W.keepIn K (.ref f18) = true)
    (a19 : PySem.W.nsIn K mainGlobals "row_apart" = some (some (.ref f19))) (l19 : K.lookup f19 = some ⟨oc19, od19, .func (PySem.W.fnOf "row_apart" "row_apart" (defArgs s_row_apart) (defBody s_row_apart) (defScope s_row_apart) .none kV19 dc19 pm19 an19 cd19 ct19), sl19⟩) (c19 : PySem.W.codeIn K cd19 "row_apart" = true) (k19 : PySem.W.keepIn K (.ref f19) = true)
    (a20 : PySem.W.nsIn K mainGlobals "law" = some (some (.ref f20))) (l20 : K.lookup f20 = some ⟨oc20, od20, .func (PySem.W.fnOf "law" "law" (defArgs s_law) (defBody s_law) (defScope s_law) .none kV20 dc20 pm20 an20 cd20 ct20), sl20⟩) (c20 : PySem.W.codeIn K cd20 "law" = true) (k20 : PySem.W.keepIn K (.ref f20) = true)
    (z_abs : PySem.W.nsIn K mainGlobals "abs" = some none)
    (z_all : PySem.W.nsIn K mainGlobals "all" = some none)
    (z_bool : PySem.W.nsIn K mainGlobals "bool" = some none)
    (z_enumerate : PySem.W.nsIn K mainGlobals "enumerate" = some none)
    (z_int : PySem.W.nsIn K mainGlobals "int" = some none)
    (z_isinstance : PySem.W.nsIn K mainGlobals "isinstance" = some none)
    (z_len : PySem.W.nsIn K mainGlobals "len" = some none)
    (z_list : PySem.W.nsIn K mainGlobals "list" = some none)
    (z_range : PySem.W.nsIn K mainGlobals "range" = some none)
    (z_str : PySem.W.nsIn K mainGlobals "str" = some none)
    (z_tuple : PySem.W.nsIn K mainGlobals "tuple" = some none)
    (z_zip : PySem.W.nsIn K mainGlobals "zip" = some none)
    (e_LETTERS : PySem.W.nsIn K mainGlobals "LETTERS" = some (some (.str "abcdefghijklmnopqrstuvwxyz" t_LETTERS)))
    (e_FEWEST_HANDS : PySem.W.nsIn K mainGlobals "FEWEST_HANDS" = some (some (.int 2 t_FEWEST_HANDS)))
    (e_MOST_HANDS : PySem.W.nsIn K mainGlobals "MOST_HANDS" = some (some (.int 4 t_MOST_HANDS)))
    (e_MOST_LETTERS : PySem.W.nsIn K mainGlobals "MOST_LETTERS" = some (some (.int 6 t_MOST_LETTERS)))
    (e_MOST_ROOMS : PySem.W.nsIn K mainGlobals "MOST_ROOMS" = some (some (.int 30 t_MOST_ROOMS)))
    (e_MOST : PySem.W.nsIn K mainGlobals "MOST" = some (some (.int 600 t_MOST))) :
    ∃ fd : FuncData, (∀ (s : Shared) (v : Value), BindsTo s fd ⟨[v], []⟩ [("_law_script", v)]) ∧ ∀ base : Heap, K.In base → base.Ns mainGlobals mg → FnOk P w K mg base (L2N.CX P w) 9 fa fd ["_law_script"] (spD K RX0 (List.replicate 1 false) m_law) := by
  have e := hfa.symm.trans (PySem.W.mg_of X G a20)
  cases e
  have B : Bi mg := ⟨PySem.W.mg_none_of X G z_abs, PySem.W.mg_none_of X G z_all, PySem.W.mg_none_of X G z_bool, PySem.W.mg_none_of X G z_enumerate, PySem.W.mg_none_of X G z_int, PySem.W.mg_none_of X G z_isinstance, PySem.W.mg_none_of X G z_len, PySem.W.mg_none_of X G z_list, PySem.W.mg_none_of X G z_range, PySem.W.mg_none_of X G z_str, PySem.W.mg_none_of X G z_tuple, PySem.W.mg_none_of X G z_zip, ⟨_, PySem.W.mg_of X G e_LETTERS⟩, ⟨_, PySem.W.mg_of X G e_FEWEST_HANDS⟩, ⟨_, PySem.W.mg_of X G e_MOST_HANDS⟩, ⟨_, PySem.W.mg_of X G e_MOST_LETTERS⟩, ⟨_, PySem.W.mg_of X G e_MOST_ROOMS⟩, ⟨_, PySem.W.mg_of X G e_MOST⟩⟩
  refine ⟨PySem.W.fnOf "law" "law" (defArgs s_law) (defBody s_law) (defScope s_law) .none kV20 dc20 pm20 an20 cd20 ct20, fun s v => .of_eq rfl, fun base _ _ => ?_⟩
  have C__law_take : Cal P w K mg base RX0 "_law_take" 1 (true :: List.replicate 1 false) m__law_take := ok__law_take (fun_mk (st := s__law_take) l0 c0 k0) (PySem.W.mg_of X G a0) B 
  have C__law_house : Cal P w K mg base RX0 "_law_house" 2 (true :: List.replicate 0 false) m__law_house := ok__law_house (fun_mk (st := s__law_house) l1 c1 k1) (PySem.W.mg_of X G a1) B C__law_take
  have C__law_bag : Cal P w K mg base RX0 "_law_bag" 1 (List.replicate 1 false) m__law_bag := ok__law_bag (fun_mk (st := s__law_bag) l2 c2 k2) (PySem.W.mg_of X G a2) B 
  have C__law_cell : Cal P w K mg base RX0 "_law_cell" 1 (List.replicate 2 false) m__law_cell := ok__law_cell (fun_mk (st := s__law_cell) l3 c3 k3) (PySem.W.mg_of X G a3) B 
  have C__law_drawn_table : Cal P w K mg base RX0 "_law_drawn_table" 2 (true :: List.replicate 1 false) m__law_drawn_table := ok__law_drawn_table (fun_mk (st := s__law_drawn_table) l4 c4 k4) (PySem.W.mg_of X G a4) B C__law_take
  have C__law_machine : Cal P w K mg base RX0 "_law_machine" 2 (true :: List.replicate 2 false) m__law_machine := ok__law_machine (fun_mk (st := s__law_machine) l5 c5 k5) (PySem.W.mg_of X G a5) B C__law_take
  have C__law_apart : Cal P w K mg base RX0 "_law_apart" 1 (List.replicate 3 false) m__law_apart := ok__law_apart (fun_mk (st := s__law_apart) l6 c6 k6) (PySem.W.mg_of X G a6) B 
  have C_is_whole : Cal P w K mg base RX0 "is_whole" 1 (List.replicate 1 false) m_is_whole := ok_is_whole (fun_mk (st := s_is_whole) l7 c7 k7) (PySem.W.mg_of X G a7) B 
  have C_is_sign : Cal P w K mg base RX0 "is_sign" 1 (List.replicate 1 false) m_is_sign := ok_is_sign (fun_mk (st := s_is_sign) l8 c8 k8) (PySem.W.mg_of X G a8) B 
  have C_is_rising : Cal P w K mg base RX0 "is_rising" 2 (List.replicate 2 false) m_is_rising := ok_is_rising (fun_mk (st := s_is_rising) l9 c9 k9) (PySem.W.mg_of X G a9) B C_is_whole
  have C_is_entry : Cal P w K mg base RX0 "is_entry_houses" 3 (List.replicate 2 false) m_is_entry := ok_is_entry (fun_mk (st := s_is_entry) l10 c10 k10) (PySem.W.mg_of X G a10) B C_is_rising C_is_sign
  have C_is_house : Cal P w K mg base RX0 "is_house" 4 (List.replicate 1 false) m_is_house := ok_is_house (fun_mk (st := s_is_house) l11 c11 k11) (PySem.W.mg_of X G a11) B C_is_entry C_is_whole
  have C_look_house : Cal P w K mg base RX0 "look_house" 5 (List.replicate 1 false) m_look_house := ok_look_house (fun_mk (st := s_look_house) l12 c12 k12) (PySem.W.mg_of X G a12) B C_is_house
  have C_is_line : Cal P w K mg base RX0 "is_line" 2 (List.replicate 3 false) m_is_line := ok_is_line (fun_mk (st := s_is_line) l13 c13 k13) (PySem.W.mg_of X G a13) B C_is_whole
  have C_is_machine : Cal P w K mg base RX0 "is_machine" 6 (List.replicate 2 false) m_is_machine := ok_is_machine (fun_mk (st := s_is_machine) l14 c14 k14) (PySem.W.mg_of X G a14) B C_is_rising C_is_line C_look_house
  have C_look_machine : Cal P w K mg base RX0 "look_machine" 7 (List.replicate 2 false) m_look_machine := ok_look_machine (fun_mk (st := s_look_machine) l15 c15 k15) (PySem.W.mg_of X G a15) B C_is_machine
  have C_is_entry_tables : Cal P w K mg base RX0 "is_entry_tables" 2 (List.replicate 3 false) m_is_entry_tables := ok_is_entry_tables (fun_mk (st := s_is_entry_tables) l16 c16 k16) (PySem.W.mg_of X G a16) B C_is_whole
  have C_is_done_apart : Cal P w K mg base RX0 "is_done_apart" 1 (List.replicate 3 false) m_is_done_apart := ok_is_done_apart (fun_mk (st := s_is_done_apart) l17 c17 k17) (PySem.W.mg_of X G a17) B 
  have C_is_table_of : Cal P w K mg base RX0 "is_table_of" 3 (List.replicate 2 false) m_is_table_of := ok_is_table_of (fun_mk (st := s_is_table_of) l18 c18 k18) (PySem.W.mg_of X G a18) B C_is_done_apart C_is_entry_tables
  have C_row_apart : Cal P w K mg base RX0 "row_apart" 8 (List.replicate 3 false) m_row_apart := ok_row_apart (fun_mk (st := s_row_apart) l19 c19 k19) (PySem.W.mg_of X G a19) B C_is_table_of C_look_machine C_look_house
  exact ok_law_fn (fun_mk (st := s_law) l20 c20 k20) B C_row_apart C__law_apart C__law_take C__law_machine C__law_bag C__law_cell C__law_drawn_table C__law_house
end Law
namespace Law
open PySem PySem.Spec PyProof.Rows L2 Hap M
section
variable {h : Nat} {L : List (Nat × List Nat)} {R : List Nat}
section
variable {h : Nat} {L : List (Nat × List Nat)} {R : List Nat}
def macD (o : Bool) (mv : List (List Nat)) (gd : List Nat) : D := .tup [.lst o (mv.map (ownD o)), ownD o gd]
structure Mach (L : List (Nat × List Nat)) (mv : List (List Nat)) (gd : List Nat) : Prop where
  n1 : 1 ≤ mv.length
  n30 : mv.length ≤ 30
  len : ∀ l ∈ mv, l.length = L.length
  lt : ∀ l ∈ mv, ∀ x ∈ l, x < mv.length
  rise : gd.Pairwise (· < ·)
  good : ∀ x ∈ gd, x < mv.length
variable {mv : List (List Nat)} {gd : List Nat}
theorem frz_mac {o : Bool} : frz (macD o mv gd) = macD false mv gd := by
  unfold macD
  have e : frzs (mv.map (ownD o)) = mv.map (ownD false) := frzs_mapf fun _ _ => frz_own
  simp [e]
theorem imm_mac : isImm (macD false mv gd) = true := by
  unfold macD
  have e : isImms (mv.map (ownD false)) = true := imms_map fun _ _ => imm_own
  simp [e]
theorem mac_0 {o : Bool} : gIx (macD o mv gd) (.int 0) = some (.lst o (mv.map (ownD o))) := by unfold macD; rw [ix_t, at_0]; rfl
theorem mac_1 {o : Bool} : gIx (macD o mv gd) (.int 1) = some (ownD o gd) := by unfold macD; rw [ix_t, at_1]; rfl
theorem sh_mac {o : Bool} : Sh 5 (macD o mv gd) := sh_tup (n := 4) fun d hd => by
  rcases List.mem_cons.mp hd with rfl | hd
  · refine sh_lst (n := 3) fun d hd => ?_
    obtain ⟨l, _, rfl⟩ := List.mem_map.mp hd
    exact sh_own.mono (by omega)
  · cases List.mem_singleton.mp hd
    exact sh_own.mono (by omega)
theorem toPy_mac {o o' : Bool} : toPy (macD o mv gd) = toPy (macD o' mv gd) := by
  have e : toPys (mv.map (ownD o)) = toPys (mv.map (ownD o')) := by
    rw [toPys_map, toPys_map, List.map_map, List.map_map]
    refine List.map_congr_left fun l _ => ?_
    exact toPy_own
  unfold macD
  simp only [toPy, toPys, e, toPy_own (o := o) (o' := o')]
/-- a machine drawn -/
theorem machine_spec (H : House h L) {n : Nat} {g : D} (hb : Bag n g) (hn : n < 2 ^ 40) {most : Nat} (h1 : 1 ≤ most) (h30 : most ≤ 30) :
    ∃ (g' : D) (mv : List (List Nat)) (gd : List Nat), m__law_machine [g, houD false h L, .int (most : Int)] = .rt (macD true mv gd) [some g', none, none] ∧ Bag (n + 2 ^ 10) g' ∧ Mach L mv gd ∧ mv.length ≤ most := by
  obtain ⟨r, g1, hr, hb1, t1⟩ := take_spec (m := (most : Int)) hb (by omega) (by omega) (by omega)
  have l6 := H.l6
  have inner : ∀ (xs : List (Nat × List Nat)) (g : D) (k : Nat) (l : List Nat) (v7 : Option D) (w4 : Option D) (w5 : Option D), Bag k g → k + xs.length < 2 ^ 55 → l.length + xs.length ≤ 10 → (∀ x ∈ l, x < r + 1) → ∃ (g' : D) (l' : List Nat) (v7' : Option D),
      loopS (stepS (gN 7) l__law_machine_1) (xs.map (entD false)) [some g, some (houD false h L), some (.int (most : Int)), some (.int ((r + 1 : Nat) : Int)), w4, w5, some (.lst true (l.map natD)), v7, none] = .nx [some g', some (houD false h L), some (.int (most : Int)), some (.int ((r + 1 : Nat) : Int)), w4, w5, some (.lst true (l'.map natD)), v7', none] ∧ Bag (k + xs.length) g' ∧ l'.length = l.length + xs.length ∧ ∀ x ∈ l', x < r + 1 := by
    intro xs
    induction xs with
    | nil => exact fun g k l v7 w4 w5 hb _ _ hx => ⟨g, l, v7, rfl, hb, rfl, hx⟩
    | cons e xs ih =>
      intro g k l v7 w4 w5 hb hk hl hx
      simp only [List.length_cons] at hk hl
      obtain ⟨x, g2, hx2, hb2, t2⟩ := take_spec (m := ((r + 1 : Nat) : Int)) hb (by omega) (by omega) (by omega)
      have hs : l.length < sizeLine := by unfold sizeLine; omega
      obtain ⟨g3, l3, v3, e3, hb3, hl3, hx3⟩ := ih g2 (k + 1) (l ++ [x]) (some (entD false e)) w4 w5 hb2 (by omega) (by rw [List.length_append, List.length_singleton]; omega) (fun y hy => (List.mem_append.mp hy).elim (hx y) fun z => by cases List.mem_singleton.mp z; omega)
      refine ⟨g3, l3, v3, ?_, by rw [List.length_cons]; exact hb3.mono (by omega), by rw [hl3]; simp only [List.length_append, List.length_cons, List.length_nil]; omega, hx3⟩
      have st : stepS (gN 7) l__law_machine_1 (entD false e) [some g, some (houD false h L), some (.int (most : Int)), some (.int ((r + 1 : Nat) : Int)), w4, w5, some (.lst true (l.map natD)), v7, none] = .nx [some g2, some (houD false h L), some (.int (most : Int)), some (.int ((r + 1 : Nat) : Int)), w4, w5, some (.lst true ((l ++ [x]).map natD)), some (entD false e), none] := by
        rw [ap_step]; unfold l__law_machine_1
        simp [t2, hs, natD_eq, -Int.natCast_add]
      show loopS _ (entD false e :: xs.map (entD false)) _ = _
      unfold loopS
      rw [st]
      exact e3
  have mL := inner L
  have hr' : r < most := by omega
  obtain ⟨ρ', lp, g2, mv, v5, v7, e, v5k, hb2, hml, hlen, hlt⟩ := loopR (step := stepS (gN 5) l__law_machine_2) (n := r + 1) (ρ := [some g1, some (houD false h L), some (.int (most : Int)), some (.int ((r + 1 : Nat) : Int)), some (.lst true []), none, none, none, none])
    (fun k ρ => ∃ (g2 : D) (mv : List (List Nat)) (v5 v7 : Option D), ρ = [some g2, some (houD false h L), some (.int (most : Int)), some (.int ((r + 1 : Nat) : Int)), some (.lst true (mv.map (ownD true))), v5, none, v7, none] ∧ (v5 = none ∨ ∃ i : Int, v5 = some (.int i)) ∧ Bag (n + 1 + 10 * k) g2 ∧ mv.length = k ∧ (∀ l ∈ mv, l.length = L.length) ∧ ∀ l ∈ mv, ∀ x ∈ l, x < r + 1)
    ⟨g1, [], none, none, rfl, .inl rfl, hb1.mono (by omega), rfl, by simp, by simp⟩ (by
      rintro j ρ hj ⟨g2, mv, v5, v7, rfl, _, hb2, hml, hlen, hlt⟩
      obtain ⟨g3, l3, v3, e3, hb3, hl3, hx3⟩ := mL g2 (n + 1 + 10 * j) [] v7 (some (.lst true (mv.map (ownD true)))) (some (.int (j : Int))) hb2 (by omega) (by show 0 + L.length ≤ 10; omega) (by simp)
      have hs : mv.length < sizeLine := by unfold sizeLine; omega
      refine ⟨[some g3, some (houD false h L), some (.int (most : Int)), some (.int ((r + 1 : Nat) : Int)), some (.lst true ((mv ++ [l3]).map (ownD true))), some (.int (j : Int)), none, v3, none], ?_, g3, mv ++ [l3], _, _, rfl, .inr ⟨_, rfl⟩, hb3.mono (by omega), by simp [hml], fun l hl => ?_, fun l hl => ?_⟩
      · have e3' : loopS (stepS (gN 7) l__law_machine_1) (L.map (entD false)) [some g2, some (houD false h L), some (.int (most : Int)), some (.int ((r + 1 : Nat) : Int)), some (.lst true (mv.map (ownD true))), some (.int (j : Int)), some (.lst true []), v7, none] = _ := e3
        rw [ap_step]; unfold l__law_machine_2
        simp [e3', hs, ownD, -Int.natCast_add]
      · rcases List.mem_append.mp hl with hl | hl
        · exact hlen l hl
        · cases List.mem_singleton.mp hl; simpa using hl3
      · rcases List.mem_append.mp hl with hl | hl
        · exact hlt l hl
        · cases List.mem_singleton.mp hl; exact hx3)
  subst e
  have p30 : (2 : Int) ^ (r + 1) ≤ 2 ^ 30 := by
    have : 2 ^ (r + 1) ≤ 2 ^ 30 := Nat.pow_le_pow_right (by omega) (by omega)
    exact_mod_cast this
  have p0 : (0 : Int) < 2 ^ (r + 1) := by
    have : 0 < 2 ^ (r + 1) := Nat.pow_pos (by omega)
    exact_mod_cast this
  obtain ⟨bits, g3, hbt, hb3, t3⟩ := take_spec (m := (2 : Int) ^ (r + 1)) hb2 (by omega) p0 (by omega)
  have cp : CPow 1 ((r + 1 : Nat) : Int) := cpow1 (by omega)
  have i5 : immO (some v5) = true := by
    rcases v5k with rfl | ⟨i, rfl⟩ <;> rfl
  have lc : fLc (fItN rng1 (fCons (fVar 3) fNil)) (gN 5) (fTv (vOp2 gEq (vOp2 gBand (vOp2 gShr (vVar 8) (vVar 5)) (vK (.int 1))) (vK (.int 1)))) (fVar 5) [5] [some g3, some (houD false h L), some (.int (most : Int)), some (.int ((r + 1 : Nat) : Int)), some (.lst true (mv.map (ownD true))), v5, none, v7, some (.int (bits : Int))]
      = .ok (ownD true (bitsL (r + 1) bits)) [some g3, some (houD false h L), some (.int (most : Int)), some (.int ((r + 1 : Nat) : Int)), some (.lst true (mv.map (ownD true))), v5, none, v7, some (.int (bits : Int))] := by
    unfold ownD bitsL
    refine lc_map (i := fItN rng1 (fCons (fVar 3) fNil)) (t := gN 5) (c := fTv (vOp2 gEq (vOp2 gBand (vOp2 gShr (vVar 8) (vVar 5)) (vK (.int 1))) (vK (.int 1)))) (f := fVar 5) (vs := [5]) (g := fun i => .int ((i : Nat) : Int)) (p := fun j => bits.testBit j) ?_ ?_ ?_ ?_
    · simp [rng1_n (n := r + 1) (by omega), -Int.natCast_add]
    · simp [i5]
    · rw [List.length_range]; unfold sizeLine; omega
    · intro j hj
      let ρ : Ev := [some g3, some (houD false h L), some (.int (most : Int)), some (.int ((r + 1 : Nat) : Int)), some (.lst true (mv.map fun l => .lst true (l.map natD))), some (.int (j : Int)), none, v7, some (.int (bits : Int))]
      refine ⟨ρ, rfl, ρ, ?_, fun _ => ⟨ρ, rfl, rfl⟩, fun _ => rfl⟩
      have e1 : (bits : Int) / 2 ^ j = ((bits >>> j : Nat) : Int) := by rw [Nat.shiftRight_eq_div_pow]; norm_cast
      have e2 : Builtin.bitAnd ((bits >>> j : Nat) : Int) 1 = (((bits >>> j) &&& 1 : Nat) : Int) := band_nn _ 1
      simp [ρ, e1, e2, -Nat.and_one_is_mod]
      rw [Bool.eq_iff_iff]
      simp only [decide_eq_true_eq]
      exact test_1 bits j
  have i4 : isImm (.lst true (mv.map (ownD true))) = false := rfl
  have sh : (1 : Int) * 2 ^ ((r + 1 : Nat) : Int).toNat = 2 ^ (r + 1) := by rw [Int.one_mul]; rfl
  have e1 : (1 : Int) + (r : Int) = ((r + 1 : Nat) : Int) := by omega
  refine ⟨g3, mv, bitsL (r + 1) bits, ?_, hb3.mono (by omega), ⟨by omega, by omega, hlen, fun l hl x hx => by rw [hml]; exact hlt l hl x hx, ?_, ?_⟩, by omega⟩
  · have t1' : m__law_take [g, .int (most : Int)] = _ := t1
    have r1 := rng1_n (n := r + 1) (by omega)
    unfold m__law_machine; rw [semOf_ap]; unfold b__law_machine
    have s2 : 2 ≤ sizeLine := by decide
    have gs : gShl (.int 1) (.int ((r + 1 : Nat) : Int)) = some (.int ((2 : Int) ^ (r + 1))) := by
      show (if CPow 1 ((r + 1 : Nat) : Int) then some (D.int (1 * 2 ^ ((r + 1 : Nat) : Int).toNat)) else none) = _
      rw [if_pos cp, sh]
    have fs : fI (vOp2 gShl (vK (.int 1)) (vVar 3)) [some g2, some (houD false h L), some (.int (most : Int)), some (.int ((r + 1 : Nat) : Int)), some (.lst true (mv.map (ownD true))), v5, none, v7, none] = .ok (.int ((2 : Int) ^ (r + 1))) [some g2, some (houD false h L), some (.int (most : Int)), some (.int ((r + 1 : Nat) : Int)), some (.lst true (mv.map (ownD true))), v5, none, v7, none] := by
      rw [ap_I, ap_v2, ap_vk, ap_vvar]
      show immR ((some (D.int 1)).bind fun d => (some (D.int ((r + 1 : Nat) : Int))).bind (gShl d)) _ = _
      rw [Option.bind_some, Option.bind_some, gs]
      rfl
    simp [s2, t1, e1, r1, lp, fs, t3, lc, i4, macD, -Int.natCast_add, -ap_I]
  · unfold bitsL; exact List.Pairwise.filter _ List.pairwise_lt_range
  · intro x hx
    unfold bitsL at hx
    rw [List.mem_filter, List.mem_range] at hx
    omega
end
section
variable {h : Nat} {L : List (Nat × List Nat)} {R : List Nat} {mv : List (List Nat)} {gd : List Nat}
theorem isline_spec {l : List Nat} {n k : Nat} (hl : l.length = k) (hk : k ≤ 6) (hn : ∀ x ∈ l, x < n) : m_is_line [ownD false l, .int (k : Int), .int (n : Int)] = .rt (.bl true) [none, none, none] := by
  have il : gIsi [ownD false l, .gv (.ty "list")] = some (.bl true) := isi_lst_list
  have ll : gLen [ownD false l] = some (.int (l.length : Int)) := by
    unfold ownD
    simp [show l.length ≤ sizeLine by unfold sizeLine; omega]
  have ne : gNe (.int (l.length : Int)) (.int (k : Int)) = some (.bl false) := by
    subst hl
    show gNe (.int (l.length : Int)) (.int (l.length : Int)) = _
    unfold gNe gEq
    simp
  have lc : fLc (fIt itemsL (fVar 0)) (gN 3) fYes (fAndD (fCall 1 m_is_whole (fCons (fVar 3) fNil)) (fChain gLe gLt (fK (.int 0)) (fVar 3) (fVar 2))) [3] [some (ownD false l), some (.int (k : Int)), some (.int (n : Int)), none] = .ok (.lst true (l.map fun _ => .bl true)) [some (ownD false l), some (.int (k : Int)), some (.int (n : Int)), none] := by
    refine lc_all (g := natD) (by simp [ownD]) (by simp) (by unfold sizeLine; omega) fun x hx => ?_
    have hx' := hn x hx
    have c1 : (x : Int) < (n : Int) := by omega
    have c0 : (0 : Int) ≤ (x : Int) := by omega
    refine ⟨[some (ownD false l), some (.int (k : Int)), some (.int (n : Int)), some (natD x)], by simp, [some (ownD false l), some (.int (k : Int)), some (.int (n : Int)), some (natD x)], ?_, by simp⟩
    simp [natD, whole_spec, c0, c1]
  have hga := all_map_bl (o := true) (fun _ => true) l
  have hall : (l.all fun _ => true) = true := by simp
  rw [hall] at hga
  unfold m_is_line; rw [semOf_ap]; unfold b_is_line
  simp [il, ll, ne, lc, hga, -all_l, -len_l]
theorem ismac_spec (H : House h L) (M0 : Mach L mv gd) : m_is_machine [houD false h L, macD false mv gd] = .rt (.bl true) [none, none] := by
  have n30 := M0.n30
  have n1 := M0.n1
  have l6 := H.l6
  have it : gIsi [macD false mv gd, .gv (.ty "tuple")] = some (.bl true) := isi_tup_tuple
  have lt : gLen [macD false mv gd] = some (.int 2) := by unfold macD; simp [show 2 ≤ sizeLine by decide]
  have i0 : isImm (.lst false (mv.map (ownD false))) = true := by simp [imms_map fun (l : List Nat) (_ : l ∈ mv) => imm_own]
  have fz : frzs (mv.map (ownD false)) = mv.map (ownD false) := frzs_mapf fun _ _ => frz_own
  have sL : L.length ≤ sizeLine := by unfold sizeLine; omega
  have sM : mv.length ≤ sizeLine := by unfold sizeLine; omega
  have lc : fLc (fIt itemsL (fI (vOp2 gIx (vVar 1) (vK (.int 0))))) (gN 3) fYes (fCall 3 m_is_line (fCons (fVar 3) (fCons (fI (vOpN gLen (vCons (vOp2 gIx (vVar 0) (vK (.int 1))) vNil))) (fCons (fVar 2) fNil)))) [3] [some (houD false h L), some (macD false mv gd), some (.int (mv.length : Int)), none] = .ok (.lst true (mv.map fun _ => .bl true)) [some (houD false h L), some (macD false mv gd), some (.int (mv.length : Int)), none] := by
    refine lc_all (g := ownD false) (by simp [mac_0, i0, fz]) (by simp) sM fun l hl => ?_
    refine ⟨[some (houD false h L), some (macD false mv gd), some (.int (mv.length : Int)), some (ownD false l)], by simp, [some (houD false h L), some (macD false mv gd), some (.int (mv.length : Int)), some (ownD false l)], ?_, by simp⟩
    simp [sL, isline_spec (M0.len l hl) l6 (M0.lt l hl)]
  have hga := all_map_bl (o := true) (fun _ => true) mv
  have hall : (mv.all fun _ => true) = true := by simp
  rw [hall] at hga
  have c1 : (1 : Int) ≤ (mv.length : Int) := by omega
  have c2 : (mv.length : Int) ≤ 30 := by omega
  unfold m_is_machine; rw [semOf_ap]; unfold b_is_machine
  simp [look_spec H, it, lt, mac_0, mac_1, sM, c1, c2, lc, hga, -all_l, rising_spec M0.rise M0.good, frz_mac, imm_mac]
theorem lookmac_spec (H : House h L) (M0 : Mach L mv gd) : m_look_machine [houD false h L, macD false mv gd] = .rt .non [none, none] := by
  unfold m_look_machine; rw [semOf_ap]; unfold b_look_machine
  simp [ismac_spec H M0, frz_mac]
theorem gd_in {y : Nat} : gIn (.int (y : Int)) (ownD false gd) = some (.bl (decide (y ∈ gd))) := in_map (f := natD) (o := false) (xs := gd) (z := y) eqd_natD sh_int fun _ _ => sh_int
end
variable {mv : List (List Nat)} {gd : List Nat}
theorem lex_app {u v : List Nat} : ∀ {a b : List Nat}, a.length = b.length → (a ++ u < b ++ v ↔ a < b ∨ (a = b ∧ u < v))
  | [], [], _ => by simp
  | [], _ :: _, e => by simp at e
  | _ :: _, [], e => by simp at e
  | x :: a, y :: b, e => by
    have ih := lex_app (u := u) (v := v) (a := a) (b := b) (by simpa using e)
    rw [List.cons_append, List.cons_append, List.cons_lt_cons_iff, List.cons_lt_cons_iff, ih]
    constructor
    · rintro (z | ⟨e1, z | ⟨e2, z⟩⟩)
      · exact .inl (.inl z)
      · exact .inl (.inr ⟨e1, z⟩)
      · exact .inr ⟨by rw [e1, e2], z⟩
    · rintro ((z | ⟨e1, z⟩) | ⟨e1, z⟩)
      · exact .inl z
      · exact .inr ⟨e1, .inl z⟩
      · exact .inr ⟨(List.cons.inj e1).1, .inr ⟨(List.cons.inj e1).2, z⟩⟩
def leW (r s : List Nat) : Prop := r.length < s.length ∨ (r.length = s.length ∧ ¬ s < r)
theorem leW_refl (r : List Nat) : leW r r := .inr ⟨rfl, List.lt_irrefl _⟩
theorem leW_trans {r s t : List Nat} (h1 : leW r s) (h2 : leW s t) : leW r t := by
  rcases h1 with h1 | ⟨h1, n1⟩
  · rcases h2 with h2 | ⟨h2, n2⟩
    · exact .inl (by omega)
    · exact .inl (by omega)
  · rcases h2 with h2 | ⟨h2, n2⟩
    · exact .inl (by omega)
    · exact .inr ⟨by omega, List.not_lt.mpr (List.le_trans (List.not_lt.mp n1) (List.not_lt.mp n2))⟩
theorem leW_app {r s : List Nat} (u : List Nat) (h : leW r s) : leW (r ++ u) (s ++ u) := by
  rcases h with h | ⟨h, n⟩
  · exact .inl (by simp; omega)
  · refine .inr ⟨by simp [h], fun z => ?_⟩
    rcases (lex_app h.symm).mp z with z | ⟨_, z⟩
    · exact n z
    · exact List.lt_irrefl _ z
theorem leW_pre (r u : List Nat) : leW r (r ++ u) := by
  cases u with
  | nil => rw [List.append_nil]; exact leW_refl r
  | cons x u => exact .inl (by simp)
theorem leW_snoc {r s : List Nat} (h : leW r s) (hne : r ≠ s) (k k' : Nat) : leW (r ++ [k]) (s ++ [k']) := by
  rcases h with h | ⟨h, n⟩
  · exact .inl (by simp; omega)
  · refine .inr ⟨by simp [h], fun z => ?_⟩
    rcases (lex_app h.symm).mp z with z | ⟨z, _⟩
    · exact n z
    · exact hne z.symm
theorem leW_last {r : List Nat} {k k' : Nat} (h : k ≤ k') : leW (r ++ [k]) (r ++ [k']) := by
  refine .inr ⟨by simp, fun z => ?_⟩
  rcases (lex_app rfl).mp z with z | ⟨_, z⟩
  · exact List.lt_irrefl _ z
  · rcases List.cons_lt_cons_iff.mp z with z | ⟨_, z⟩
    · omega
    · exact List.lt_irrefl _ z
def st (mv : List (List Nat)) (p : Nat × Nat) (k : Nat) : Nat × Nat := ((mv.getD p.1 []).getD k 0, (mv.getD p.2 []).getD k 0)
def goP (mv : List (List Nat)) : Nat × Nat → List Nat → Nat × Nat
  | p, [] => p
  | p, k :: w => goP mv (st mv p k) w
theorem goP_app : ∀ (w u : List Nat) (p : Nat × Nat), goP mv p (w ++ u) = goP mv (goP mv p w) u
  | [], _, _ => rfl
  | k :: w, u, p => goP_app w u (st mv p k)
def dif (gd : List Nat) (p : Nat × Nat) : Bool := decide (p.1 ∈ gd) != decide (p.2 ∈ gd)
def InR (m : Nat) (w : List Nat) : Prop := ∀ k ∈ w, k < m
structure Best (mv : List (List Nat)) (gd : List Nat) (m : Nat) (p : Nat × Nat) (W : List Nat) : Prop where
  inr : InR m W
  sep : dif gd (goP mv p W) = true
  min : ∀ w, InR m w → dif gd (goP mv p w) = true → leW W w
theorem Best.uniq {m : Nat} {p : Nat × Nat} {W W' : List Nat} (h : Best mv gd m p W) (k : Best mv gd m p W') : W = W' := by
  rcases h.min W' k.inr k.sep with h1 | ⟨h1, n1⟩
  · rcases k.min W h.inr h.sep with h2 | ⟨h2, _⟩ <;> omega
  · rcases k.min W h.inr h.sep with h2 | ⟨_, n2⟩
    · omega
    · exact List.le_antisymm (List.not_lt.mp n1) (List.not_lt.mp n2)
structure Bq (mv : List (List Nat)) (gd : List Nat) (m : Nat) (p0 : Nat × Nat) (E : List ((Nat × Nat) × List Nat)) (n kc : Nat) : Prop where
  root : E[0]? = some (p0, [])
  lead : ∀ e ∈ E, goP mv p0 e.2 = e.1 ∧ InR m e.2
  nd : (E.map (·.1)).Nodup
  par : ∀ e ∈ E, e.2 = [] ∨ ∃ i e' k, E[i]? = some e' ∧ e.2 = e'.2 ++ [k] ∧ (i < n ∨ (i = n ∧ k < kc))
  srt : E.Pairwise fun e f => leW e.2 f.2
  cl : ∀ i e k, E[i]? = some e → k < m → (i < n ∨ (i = n ∧ k < kc)) → ∃ f ∈ E, f.1 = st mv e.1 k ∧ leW f.2 (e.2 ++ [k])
  no : ∀ i e, i < n → E[i]? = some e → dif gd e.1 = false
theorem pw_get {α : Type} {P : α → α → Prop} {E : List α} (h : E.Pairwise P) {i j : Nat} {e f : α} (hij : i < j) (hi : E[i]? = some e) (hj : E[j]? = some f) : P e f := by
  obtain ⟨h1, h2⟩ := List.getElem?_eq_some_iff.mp hi
  obtain ⟨h3, h4⟩ := List.getElem?_eq_some_iff.mp hj
  have := List.pairwise_iff_getElem.mp h i j h1 h3 hij
  rw [h2, h4] at this; exact this
theorem Bq.all_le {m : Nat} {p0 : Nat × Nat} {E : List ((Nat × Nat) × List Nat)} {n kc : Nat} (B : Bq mv gd m p0 E n kc) {en : (Nat × Nat) × List Nat} (hn : E[n]? = some en) : ∀ e ∈ E, leW e.2 (en.2 ++ [kc]) := by
  intro e he
  rcases B.par e he with z | ⟨i, e', k, hi, z, c⟩
  · rw [z]; exact .inl (by simp)
  · rw [z]
    rcases c with c | ⟨c, hk⟩
    · refine leW_snoc (pw_get B.srt c hi hn) (fun z => ?_) k kc
      have h1 := (B.lead e' (List.mem_of_getElem? hi)).1
      have h2 := (B.lead en (List.mem_of_getElem? hn)).1
      rw [z, h2] at h1
      have h3 : (E.map (·.1))[i]? = some e'.1 := by rw [List.getElem?_map, hi]; rfl
      have h4 : (E.map (·.1))[n]? = some en.1 := by rw [List.getElem?_map, hn]; rfl
      exact pw_get B.nd c h3 h4 h1.symm
    · subst c
      rw [hn] at hi; cases hi
      exact leW_last (by omega)
theorem Bq.old {m : Nat} {p0 : Nat × Nat} {E : List ((Nat × Nat) × List Nat)} {n kc : Nat} (B : Bq mv gd m p0 E n kc) {en : (Nat × Nat) × List Nat} (hn : E[n]? = some en) (hin : st mv en.1 kc ∈ E.map (·.1)) : Bq mv gd m p0 E n (kc + 1) where
  root := B.root
  lead := B.lead
  nd := B.nd
  par := fun e he => (B.par e he).imp id fun ⟨i, e', k, a, b, c⟩ => ⟨i, e', k, a, b, c.imp id fun ⟨x, y⟩ => ⟨x, by omega⟩⟩
  srt := B.srt
  cl := fun i e k hi hk c => by
    by_cases z : i = n ∧ k = kc
    · obtain ⟨rfl, rfl⟩ := z
      rw [hn] at hi; cases hi
      obtain ⟨f, hf, e1⟩ := List.mem_map.mp hin
      exact ⟨f, hf, e1, B.all_le hn f hf⟩
    · exact B.cl i e k hi hk (c.imp id fun ⟨x, y⟩ => ⟨x, by omega⟩)
  no := B.no
theorem Bq.new {m : Nat} {p0 : Nat × Nat} {E : List ((Nat × Nat) × List Nat)} {n kc : Nat} (B : Bq mv gd m p0 E n kc) {en : (Nat × Nat) × List Nat} (hn : E[n]? = some en) (hk : kc < m) (hin : st mv en.1 kc ∉ E.map (·.1)) : Bq mv gd m p0 (E ++ [(st mv en.1 kc, en.2 ++ [kc])]) n (kc + 1) := by
  have hnl : n < E.length := (List.getElem?_eq_some_iff.mp hn).1
  have up : ∀ {i : Nat} {e : (Nat × Nat) × List Nat}, E[i]? = some e → (E ++ [(st mv en.1 kc, en.2 ++ [kc])])[i]? = some e := fun {i e} hi => by
    rw [List.getElem?_append_left (List.getElem?_eq_some_iff.mp hi).1]; exact hi
  have hlead := B.lead en (List.mem_of_getElem? hn)
  refine ⟨up B.root, fun e he => ?_, ?_, fun e he => ?_, List.pairwise_append.mpr ⟨B.srt, List.pairwise_singleton _ _, fun e he f hf => ?_⟩, fun i e k hi hk' c => ?_, fun i e hi e1 => ?_⟩
  · rcases List.mem_append.mp he with z | z
    · exact B.lead e z
    · rw [List.mem_singleton] at z; subst z
      refine ⟨?_, fun x hx => ?_⟩
      · show goP mv p0 (en.2 ++ [kc]) = _
        rw [goP_app, hlead.1]; rfl
      · rcases List.mem_append.mp hx with z | z
        · exact hlead.2 x z
        · rw [List.mem_singleton] at z; subst z; exact hk
  · rw [List.map_append]
    exact List.nodup_append.mpr ⟨B.nd, by simp, fun a ha b hb => by simp at hb; subst hb; intro z; subst z; exact hin ha⟩
  · rcases List.mem_append.mp he with z | z
    · exact (B.par e z).imp id fun ⟨i, e', k, a, b, c⟩ => ⟨i, e', k, up a, b, c.imp id fun ⟨x, y⟩ => ⟨x, by omega⟩⟩
    · rw [List.mem_singleton] at z; subst z
      exact .inr ⟨n, en, kc, up hn, rfl, .inr ⟨rfl, by omega⟩⟩
  · rw [List.mem_singleton] at hf; subst hf
    exact B.all_le hn e he
  · have hil : i < E.length := by rcases c with c | ⟨c, _⟩ <;> omega
    have hi' : E[i]? = some e := by rw [List.getElem?_append_left hil] at hi; exact hi
    by_cases z : i = n ∧ k = kc
    · obtain ⟨rfl, rfl⟩ := z
      rw [hn] at hi'; cases hi'
      exact ⟨_, List.mem_append_right _ (List.mem_singleton.mpr rfl), rfl, leW_refl _⟩
    · obtain ⟨f, hf, a, b⟩ := B.cl i e k hi' hk' (c.imp id fun ⟨x, y⟩ => ⟨x, by omega⟩)
      exact ⟨f, List.mem_append_left _ hf, a, b⟩
  · rw [List.getElem?_append_left (by omega)] at e1
    exact B.no i e hi e1
theorem Bq.next {m : Nat} {p0 : Nat × Nat} {E : List ((Nat × Nat) × List Nat)} {n : Nat} (B : Bq mv gd m p0 E n m) {en : (Nat × Nat) × List Nat} (hn : E[n]? = some en) (hd : dif gd en.1 = false) : Bq mv gd m p0 E (n + 1) 0 where
  root := B.root
  lead := B.lead
  nd := B.nd
  par := fun e he => (B.par e he).imp id fun ⟨i, e', k, a, b, c⟩ => ⟨i, e', k, a, b, .inl (by rcases c with c | ⟨c, _⟩ <;> omega)⟩
  srt := B.srt
  cl := fun i e k hi hk c => B.cl i e k hi hk (by
    by_cases z : i = n
    · exact .inr ⟨z, hk⟩
    · exact .inl (by omega))
  no := fun i e hi e1 => by
    by_cases z : i = n
    · subst z; rw [hn] at e1; cases e1; exact hd
    · exact B.no i e (by omega) e1
/-- what tells apart stands behind the next one -/
theorem Bq.dom {m : Nat} {p0 : Nat × Nat} {E : List ((Nat × Nat) × List Nat)} {n : Nat} (B : Bq mv gd m p0 E n 0) : ∀ (u : List Nat) (i : Nat) (e : (Nat × Nat) × List Nat), E[i]? = some e → InR m u → dif gd (goP mv e.1 u) = true → ∃ f, E[n]? = some f ∧ leW f.2 (e.2 ++ u)
  | u, i, e, hi, hu, hd => by
    by_cases c : i < n
    · cases u with
      | nil =>
        have := B.no i e c hi
        rw [show goP mv e.1 [] = e.1 from rfl, this] at hd; cases hd
      | cons k u =>
        obtain ⟨f, hf, e1, hle⟩ := B.cl i e k hi (hu k List.mem_cons_self) (.inl c)
        obtain ⟨j, hj⟩ := List.getElem?_of_mem hf
        obtain ⟨g, hg, hg2⟩ := B.dom u j f hj (fun x hx => hu x (List.mem_cons_of_mem _ hx)) (by rw [e1]; exact hd)
        refine ⟨g, hg, leW_trans hg2 ?_⟩
        have := leW_app u hle
        rwa [List.append_assoc] at this
    · have hil := (List.getElem?_eq_some_iff.mp hi).1
      obtain ⟨f, hf⟩ : ∃ f, E[n]? = some f := ⟨_, List.getElem?_eq_getElem (by omega)⟩
      refine ⟨f, hf, leW_trans ?_ (leW_pre e.2 u)⟩
      rcases Nat.lt_or_eq_of_le (Nat.le_of_not_lt c) with z | z
      · exact pw_get B.srt z hf hi
      · subst z; rw [hf] at hi; cases hi; exact leW_refl _
theorem Bq.found {m : Nat} {p0 : Nat × Nat} {E : List ((Nat × Nat) × List Nat)} {n : Nat} (B : Bq mv gd m p0 E n 0) {en : (Nat × Nat) × List Nat} (hn : E[n]? = some en) (hd : dif gd en.1 = true) : Best mv gd m p0 en.2 where
  inr := (B.lead en (List.mem_of_getElem? hn)).2
  sep := by rw [(B.lead en (List.mem_of_getElem? hn)).1]; exact hd
  min := fun w hw hs => by
    obtain ⟨f, hf, hle⟩ := B.dom w 0 (p0, []) B.root hw hs
    rw [hn] at hf; cases hf
    exact hle
theorem Bq.none {m : Nat} {p0 : Nat × Nat} {E : List ((Nat × Nat) × List Nat)} (B : Bq mv gd m p0 E E.length 0) : ∀ w, InR m w → dif gd (goP mv p0 w) = false := fun w hw => by
  cases c : dif gd (goP mv p0 w) with
  | false => rfl
  | true =>
    obtain ⟨f, hf, _⟩ := B.dom w 0 (p0, []) B.root hw c
    have := (List.getElem?_eq_some_iff.mp hf).1
    omega
variable {mv : List (List Nat)} {gd : List Nat}
def DL (mv : List (List Nat)) (gd : List Nat) (m : Nat) : Nat → Nat × Nat → Bool
  | 0, p => dif gd p
  | s + 1, p => DL mv gd m s p || (List.range m).any fun k => DL mv gd m s (st mv p k)
/-- a distance -/
def IsD (mv : List (List Nat)) (gd : List Nat) (m : Nat) (p : Nat × Nat) (d : Nat) : Prop := DL mv gd m d p = true ∧ ∀ t, t < d → ¬ DL mv gd m t p = true
theorem IsD.uniq {m : Nat} {p : Nat × Nat} {d e : Nat} (h : IsD mv gd m p d) (k : IsD mv gd m p e) : d = e := by
  rcases Nat.lt_trichotomy d e with c | c | c
  · exact (k.2 d c h.1).elim
  · exact c
  · exact (h.2 e c k.1).elim
/-- going down -/
theorem IsD.down {m d k : Nat} {p : Nat × Nat} (h : IsD mv gd m p (d + 1)) (hk : k < m) (hd : DL mv gd m d (st mv p k) = true) : IsD mv gd m (st mv p k) d := by
  refine ⟨hd, fun t ht z => h.2 (t + 1) (by omega) ?_⟩
  rw [DL, Bool.or_eq_true, List.any_eq_true]
  exact .inr ⟨k, List.mem_range.mpr hk, z⟩
theorem IsD.next {m d : Nat} {p : Nat × Nat} (h : IsD mv gd m p (d + 1)) : ∃ k, k < m ∧ IsD mv gd m (st mv p k) d := by
  have := h.1
  rw [DL, Bool.or_eq_true, List.any_eq_true] at this
  rcases this with z | ⟨k, hk, z⟩
  · exact (h.2 d (by omega) z).elim
  · exact ⟨k, List.mem_range.mp hk, h.down (List.mem_range.mp hk) z⟩
theorem zip_maps {α : Type} {a b : α → D} : ∀ xs : List α, zipD (xs.map a) (xs.map b) = xs.map fun x => .tup [a x, b x]
  | [] => rfl
  | x :: xs => by rw [List.map_cons, List.map_cons, zipD, zip_maps xs]; rfl
theorem line_range {l : List Nat} {m : Nat} (hl : l.length = m) : l.map natD = (List.range m).map fun k => natD (l.getD k 0) := by
  apply List.ext_getElem?
  intro i
  rw [List.getElem?_map, List.getElem?_map]
  by_cases hi : i < m
  · rw [List.getElem?_range hi, List.getElem?_eq_getElem (by omega)]
    simp [List.getD_eq_getElem?_getD, List.getElem?_eq_getElem (show i < l.length by omega)]
  · rw [List.getElem?_eq_none (by omega), List.getElem?_eq_none (by simp; omega)]; rfl
theorem mv_row (M0 : Mach L mv gd) {i : Nat} (hi : i < mv.length) : (mv.getD i []).length = L.length ∧ ∀ k, k < L.length → (mv.getD i []).getD k 0 < mv.length := by
  have hg : mv.getD i [] = mv[i] := by rw [List.getD_eq_getElem?_getD, List.getElem?_eq_getElem hi]; rfl
  have hm := List.getElem_mem hi
  rw [hg]
  refine ⟨M0.len _ hm, fun k hk => M0.lt _ hm _ ?_⟩
  have : k < mv[i].length := by rw [M0.len _ hm]; exact hk
  rw [List.getD_eq_getElem?_getD, List.getElem?_eq_getElem this]
  exact List.getElem_mem this
theorem mv_at {o : Bool} {i : Nat} (hi : i < mv.length) : gIx (.lst o (mv.map (ownD o))) (.int (i : Int)) = some (ownD o (mv.getD i [])) := by
  rw [ix_l, at_nat, List.getElem?_map, List.getElem?_eq_getElem hi]
  simp [List.getD_eq_getElem?_getD, List.getElem?_eq_getElem hi]
theorem st_lt (M0 : Mach L mv gd) {p : Nat × Nat} (h1 : p.1 < mv.length) (h2 : p.2 < mv.length) {k : Nat} (hk : k < L.length) : (st mv p k).1 < mv.length ∧ (st mv p k).2 < mv.length :=
  ⟨(mv_row M0 h1).2 k hk, (mv_row M0 h2).2 k hk⟩
def pairsN (n : Nat) : List (Nat × Nat) := (List.range n).flatMap fun i => (List.range n).map fun j => (i, j)
theorem mem_pairsN {n : Nat} {p : Nat × Nat} : p ∈ pairsN n ↔ p.1 < n ∧ p.2 < n := by
  unfold pairsN
  rw [List.mem_flatMap]
  constructor
  · rintro ⟨i, hi, h⟩
    obtain ⟨j, hj, rfl⟩ := List.mem_map.mp h
    exact ⟨List.mem_range.mp hi, List.mem_range.mp hj⟩
  · rintro ⟨h1, h2⟩
    exact ⟨p.1, List.mem_range.mpr h1, List.mem_map.mpr ⟨p.2, List.mem_range.mpr h2, rfl⟩⟩
theorem pairsN_len (n : Nat) : (pairsN n).length = n * n := by
  unfold pairsN
  have : ∀ (xs : List Nat), (xs.flatMap fun i => (List.range n).map fun j => (i, j)).length = xs.length * n := by
    intro xs
    induction xs with
    | nil => simp
    | cons x xs ih => rw [List.flatMap_cons, List.length_append, ih, List.length_map, List.length_range, List.length_cons, Nat.succ_mul, Nat.add_comm]
  rw [this, List.length_range]
/-- a word as a row -/
def wrd (L : List (Nat × List Nat)) (w : List Nat) : List Nat := w.map fun k => (L.map (·.1)).getD k 0
theorem wrd_len {w : List Nat} : (wrd L w).length = w.length := List.length_map _
theorem wrd_snoc {w : List Nat} {k : Nat} (hk : k < L.length) : wrd L (w ++ [k]) = wrd L w ++ [L[k].1] := by
  unfold wrd
  rw [List.map_append]
  congr 1
  simp [List.getD_eq_getElem?_getD, List.getElem?_eq_getElem hk]
theorem goP_lt (M0 : Mach L mv gd) : ∀ (w : List Nat) (p : Nat × Nat), InR L.length w → p.1 < mv.length → p.2 < mv.length → (goP mv p w).1 < mv.length ∧ (goP mv p w).2 < mv.length
  | [], _, _, h1, h2 => ⟨h1, h2⟩
  | k :: w, p, hw, h1, h2 => by
    obtain ⟨a, b⟩ := st_lt M0 h1 h2 (hw k List.mem_cons_self)
    exact goP_lt M0 w _ (fun x hx => hw x (List.mem_cons_of_mem _ hx)) a b
def rowO (L : List (Nat × List Nat)) : Option (List Nat) → D
  | none => .non
  | some w => .str (rowS (wrd L w))
variable {mv : List (List Nat)} {gd : List Nat}
abbrev En := (Nat × Nat) × List Nat
def enD (L : List (Nat × List Nat)) (e : En) : D := .tup [.int (e.1.1 : Int), .int (e.1.2 : Int), .str (rowS (wrd L e.2))]
def kp2 (p : Nat × Nat) : List Key := [.inl (p.1 : Int), .inl (p.2 : Int)]
theorem kp2_inj {p q : Nat × Nat} : kp2 p = kp2 q ↔ p = q := by
  constructor
  · intro e
    unfold kp2 at e
    have e1 := Sum.inl.inj (List.cons.inj e).1
    have e2 := Sum.inl.inj (List.cons.inj (List.cons.inj e).2).1
    exact Prod.ext (by omega) (by omega)
  · rintro rfl; rfl
def foD (L : List (Nat × List Nat)) (E : List En) : D := .lst true (E.map (enD L))
def seD (E : List En) : D := .dcT true (E.map fun e => kp2 e.1) (E.map fun _ => .bl true)
theorem kp2_mem {E : List En} {p : Nat × Nat} : kp2 p ∈ (E.map fun e => kp2 e.1) ↔ p ∈ E.map (·.1) := by
  rw [List.mem_map, List.mem_map]
  constructor
  · rintro ⟨e, h1, h2⟩; exact ⟨e, h1, kp2_inj.mp h2⟩
  · rintro ⟨e, h1, h2⟩; exact ⟨e, h1, by rw [h2]⟩
theorem se_nin {E : List En} {p : Nat × Nat} : gNin (.tup [.int (p.1 : Int), .int (p.2 : Int)]) (seD E) = some (.bl (!decide (p ∈ E.map (·.1)))) := by
  have e : gNin (.tup [.int (p.1 : Int), .int (p.2 : Int)]) (seD E) = some (.bl (!memK (kp2 p) (E.map fun e => kp2 e.1))) := rfl
  rw [e]
  unfold memK
  rw [decide_eq_decide.mpr kp2_mem]
theorem se_put {E : List En} {p : Nat × Nat} {w : List Nat} (hl : E.length < sizeLine) (hn : p ∉ E.map (·.1)) : putD (seD E) (.tup [.int (p.1 : Int), .int (p.2 : Int)]) (.bl true) = some (seD (E ++ [(p, w)])) := by
  have e : putD (seD E) (.tup [.int (p.1 : Int), .int (p.2 : Int)]) (.bl true) = if (E.map fun _ => D.bl true).length < sizeLine then some (.dcT true (putKs (E.map fun e => kp2 e.1) (E.map fun _ => .bl true) (kp2 p) (.bl true)).1 (putKs (E.map fun e => kp2 e.1) (E.map fun _ => .bl true) (kp2 p) (.bl true)).2) else none := rfl
  rw [e, if_pos (by rw [List.length_map]; exact hl)]
  unfold putKs
  rw [if_neg fun z => hn (kp2_mem.mp z)]
  unfold seD
  simp
variable {mv : List (List Nat)} {gd : List Nat}
theorem Bq.size (M0 : Mach L mv gd) {p0 : Nat × Nat} (h1 : p0.1 < mv.length) (h2 : p0.2 < mv.length) {E : List En} {n kc : Nat} (B : Bq mv gd L.length p0 E n kc) : (∀ e ∈ E, e.1.1 < mv.length ∧ e.1.2 < mv.length) ∧ E.length ≤ 900 := by
  have hb : ∀ e ∈ E, e.1.1 < mv.length ∧ e.1.2 < mv.length := fun e he => by
    obtain ⟨a, b⟩ := B.lead e he
    rw [← a]; exact goP_lt M0 e.2 p0 b h1 h2
  refine ⟨hb, ?_⟩
  have := nodup_sub_len B.nd (ys := pairsN mv.length) fun p hp => by
    obtain ⟨e, he, rfl⟩ := List.mem_map.mp hp
    exact mem_pairsN.mpr (hb e he)
  rw [pairsN_len, List.length_map] at this
  have n30 := M0.n30
  have h3 : mv.length * mv.length ≤ 30 * 30 := Nat.mul_le_mul n30 n30
  omega
theorem leW_anti {r s : List Nat} (h : leW r s) (k : leW s r) : r = s := by
  rcases h with h1 | ⟨h1, n1⟩
  · rcases k with h2 | ⟨h2, _⟩ <;> omega
  · rcases k with h2 | ⟨_, n2⟩
    · omega
    · exact List.le_antisymm (List.not_lt.mp n1) (List.not_lt.mp n2)
section
variable {α : Type} {f : α → Nat → α} {m : Nat} {p0 : α} {E : List (α × List Nat)} {n kc : Nat}
def goS (f : α → Nat → α) : α → List Nat → α
  | p, [] => p
  | p, k :: w => goS f (f p k) w
theorem goS_app : ∀ (w u : List Nat) (p : α), goS f p (w ++ u) = goS f (goS f p w) u
  | [], _, _ => rfl
  | k :: w, u, p => goS_app w u (f p k)
theorem goS_snoc (w : List Nat) (k : Nat) (p : α) : goS f p (w ++ [k]) = f (goS f p w) k := by rw [goS_app]; rfl
structure Bf (f : α → Nat → α) (m : Nat) (p0 : α) (E : List (α × List Nat)) (n kc : Nat) : Prop where
  root : E[0]? = some (p0, [])
  lead : ∀ e ∈ E, goS f p0 e.2 = e.1 ∧ InR m e.2
  nd : (E.map (·.1)).Nodup
  par : ∀ e ∈ E, e.2 = [] ∨ ∃ i e' k, E[i]? = some e' ∧ e.2 = e'.2 ++ [k] ∧ (i < n ∨ (i = n ∧ k < kc))
  srt : E.Pairwise fun e f => leW e.2 f.2
  cl : ∀ i e k, E[i]? = some e → k < m → (i < n ∨ (i = n ∧ k < kc)) → ∃ g ∈ E, g.1 = f e.1 k ∧ leW g.2 (e.2 ++ [k])
theorem Bf.init : Bf f m p0 [(p0, [])] 0 0 where
  root := rfl
  lead := fun e he => by rw [List.mem_singleton] at he; subst he; exact ⟨rfl, fun k hk => by cases hk⟩
  nd := by simp
  par := fun e he => by rw [List.mem_singleton] at he; subst he; exact .inl rfl
  srt := List.pairwise_singleton _ _
  cl := fun i e k _ _ h => by omega
theorem Bf.all_le (B : Bf f m p0 E n kc) {en : α × List Nat} (hn : E[n]? = some en) : ∀ e ∈ E, leW e.2 (en.2 ++ [kc]) := by
  intro e he
  rcases B.par e he with z | ⟨i, e', k, hi, z, c⟩
  · rw [z]; exact .inl (by simp)
  · rw [z]
    rcases c with c | ⟨c, hk⟩
    · refine leW_snoc (pw_get B.srt c hi hn) (fun z => ?_) k kc
      have h1 := (B.lead e' (List.mem_of_getElem? hi)).1
      have h2 := (B.lead en (List.mem_of_getElem? hn)).1
      rw [z, h2] at h1
      have h3 : (E.map (·.1))[i]? = some e'.1 := by rw [List.getElem?_map, hi]; rfl
      have h4 : (E.map (·.1))[n]? = some en.1 := by rw [List.getElem?_map, hn]; rfl
      exact pw_get B.nd c h3 h4 h1.symm
    · subst c
      rw [hn] at hi; cases hi
      exact leW_last (by omega)
theorem Bf.old (B : Bf f m p0 E n kc) {en : α × List Nat} (hn : E[n]? = some en) (hin : f en.1 kc ∈ E.map (·.1)) : Bf f m p0 E n (kc + 1) where
  root := B.root
  lead := B.lead
  nd := B.nd
  par := fun e he => (B.par e he).imp id fun ⟨i, e', k, a, b, c⟩ => ⟨i, e', k, a, b, c.imp id fun ⟨x, y⟩ => ⟨x, by omega⟩⟩
  srt := B.srt
  cl := fun i e k hi hk c => by
    by_cases z : i = n ∧ k = kc
    · obtain ⟨rfl, rfl⟩ := z
      rw [hn] at hi; cases hi
      obtain ⟨f, hf, e1⟩ := List.mem_map.mp hin
      exact ⟨f, hf, e1, B.all_le hn f hf⟩
    · exact B.cl i e k hi hk (c.imp id fun ⟨x, y⟩ => ⟨x, by omega⟩)
theorem Bf.new (B : Bf f m p0 E n kc) {en : α × List Nat} (hn : E[n]? = some en) (hk : kc < m) (hin : f en.1 kc ∉ E.map (·.1)) : Bf f m p0 (E ++ [(f en.1 kc, en.2 ++ [kc])]) n (kc + 1) := by
  have hnl : n < E.length := (List.getElem?_eq_some_iff.mp hn).1
  have up : ∀ {i : Nat} {e : α × List Nat}, E[i]? = some e → (E ++ [(f en.1 kc, en.2 ++ [kc])])[i]? = some e := fun {i e} hi => by
    rw [List.getElem?_append_left (List.getElem?_eq_some_iff.mp hi).1]; exact hi
  have hlead := B.lead en (List.mem_of_getElem? hn)
  refine ⟨up B.root, fun e he => ?_, ?_, fun e he => ?_, List.pairwise_append.mpr ⟨B.srt, List.pairwise_singleton _ _, fun e he f hf => ?_⟩, fun i e k hi hk' c => ?_⟩
  · rcases List.mem_append.mp he with z | z
    · exact B.lead e z
    · rw [List.mem_singleton] at z; subst z
      refine ⟨?_, fun x hx => ?_⟩
      · show goS f p0 (en.2 ++ [kc]) = _
        rw [goS_app, hlead.1]; rfl
      · rcases List.mem_append.mp hx with z | z
        · exact hlead.2 x z
        · rw [List.mem_singleton] at z; subst z; exact hk
  · rw [List.map_append]
    exact List.nodup_append.mpr ⟨B.nd, by simp, fun a ha b hb => by simp at hb; subst hb; intro z; subst z; exact hin ha⟩
  · rcases List.mem_append.mp he with z | z
    · exact (B.par e z).imp id fun ⟨i, e', k, a, b, c⟩ => ⟨i, e', k, up a, b, c.imp id fun ⟨x, y⟩ => ⟨x, by omega⟩⟩
    · rw [List.mem_singleton] at z; subst z
      exact .inr ⟨n, en, kc, up hn, rfl, .inr ⟨rfl, by omega⟩⟩
  · rw [List.mem_singleton] at hf; subst hf
    exact B.all_le hn e he
  · have hil : i < E.length := by rcases c with c | ⟨c, _⟩ <;> omega
    have hi' : E[i]? = some e := by rw [List.getElem?_append_left hil] at hi; exact hi
    by_cases z : i = n ∧ k = kc
    · obtain ⟨rfl, rfl⟩ := z
      rw [hn] at hi'; cases hi'
      exact ⟨_, List.mem_append_right _ (List.mem_singleton.mpr rfl), rfl, leW_refl _⟩
    · obtain ⟨f, hf, a, b⟩ := B.cl i e k hi' hk' (c.imp id fun ⟨x, y⟩ => ⟨x, by omega⟩)
      exact ⟨f, List.mem_append_left _ hf, a, b⟩
theorem Bf.next (B : Bf f m p0 E n m) : Bf f m p0 E (n + 1) 0 where
  root := B.root
  lead := B.lead
  nd := B.nd
  par := fun e he => (B.par e he).imp id fun ⟨i, e', k, a, b, c⟩ => ⟨i, e', k, a, b, .inl (by rcases c with c | ⟨c, _⟩ <;> omega)⟩
  srt := B.srt
  cl := fun i e k hi hk c => B.cl i e k hi hk (by
    by_cases z : i = n
    · exact .inr ⟨z, hk⟩
    · exact .inl (by omega))
theorem list_rev_ind {β : Type} {P : List β → Prop} (h0 : P []) (h1 : ∀ (w : List β) (k : β), P w → P (w ++ [k])) (w : List β) : P w := by
  rw [← List.reverse_reverse w]
  induction w.reverse with
  | nil => exact h0
  | cons k w ih => rw [List.reverse_cons]; exact h1 _ _ ih
/-- at the end each state that is led to stands there, with the first word of all -/
theorem Bf.all (B : Bf f m p0 E E.length 0) (w : List Nat) : InR m w → ∃ e ∈ E, e.1 = goS f p0 w ∧ leW e.2 w := by
  refine list_rev_ind (P := fun w => InR m w → ∃ e ∈ E, e.1 = goS f p0 w ∧ leW e.2 w) ?_ ?_ w
  · exact fun _ => ⟨_, List.mem_of_getElem? B.root, rfl, leW_refl _⟩
  · intro w k ih hw
    obtain ⟨e, he, e1, e2⟩ := ih fun x hx => hw x (List.mem_append_left _ hx)
    obtain ⟨i, hi⟩ := List.getElem?_of_mem he
    obtain ⟨g, hg, g1, g2⟩ := B.cl i e k hi (hw k (List.mem_append_right _ (List.mem_singleton.mpr rfl))) (.inl (List.getElem?_eq_some_iff.mp hi).1)
    exact ⟨g, hg, by rw [g1, e1, goS_snoc], leW_trans g2 (leW_app [k] e2)⟩
theorem nodup_inj {α β : Type} {g : α → β} : ∀ {E : List α}, (E.map g).Nodup → ∀ {a b : α}, a ∈ E → b ∈ E → g a = g b → a = b
  | x :: E, h, a, b, ha, hb, e => by
    rw [List.map_cons, List.nodup_cons] at h
    rcases List.mem_cons.mp ha with ea | ha2
    · rcases List.mem_cons.mp hb with eb | hb2
      · rw [ea, eb]
      · exact (h.1 (by rw [← ea, e]; exact List.mem_map.mpr ⟨b, hb2, rfl⟩)).elim
    · rcases List.mem_cons.mp hb with eb | hb2
      · exact (h.1 (by rw [← eb, ← e]; exact List.mem_map.mpr ⟨a, ha2, rfl⟩)).elim
      · exact nodup_inj h.2 ha2 hb2 e
theorem Bf.min (B : Bf f m p0 E E.length 0) {e : α × List Nat} (he : e ∈ E) {w : List Nat} (hw : InR m w) (h : goS f p0 w = e.1) : leW e.2 w := by
  obtain ⟨g, hg, g1, g2⟩ := B.all w hw
  have : g = e := nodup_inj B.nd hg he (by rw [g1, h])
  rw [← this]; exact g2
end
section
variable {α : Type} {f : α → Nat → α} {dif : α → Bool} {m : Nat} {p0 : α} {E : List (α × List Nat)} {n kc : Nat}
structure BestS (f : α → Nat → α) (dif : α → Bool) (m : Nat) (p : α) (W : List Nat) : Prop where
  inr : InR m W
  sep : dif (goS f p W) = true
  min : ∀ w, InR m w → dif (goS f p w) = true → leW W w
theorem BestS.uniq {W W' : List Nat} (h : BestS f dif m p0 W) (k : BestS f dif m p0 W') : W = W' := leW_anti (h.min W' k.inr k.sep) (k.min W h.inr h.sep)
/-- the states ahead of n do not differ -/
def NoD (dif : α → Bool) (E : List (α × List Nat)) (n : Nat) : Prop := ∀ i e, i < n → E[i]? = some e → dif e.1 = false
theorem Bf.domS (B : Bf f m p0 E n 0) (N : NoD dif E n) : ∀ (u : List Nat) (i : Nat) (e : α × List Nat), E[i]? = some e → InR m u → dif (goS f e.1 u) = true → ∃ j g u', E[j]? = some g ∧ n ≤ j ∧ InR m u' ∧ dif (goS f g.1 u') = true ∧ leW (g.2 ++ u') (e.2 ++ u)
  | u, i, e, hi, hu, hd => by
    by_cases c : i < n
    · cases u with
      | nil =>
        have := N i e c hi
        rw [show goS f e.1 [] = e.1 from rfl, this] at hd; cases hd
      | cons k u =>
        obtain ⟨g, hg, e1, hle⟩ := B.cl i e k hi (hu k List.mem_cons_self) (.inl c)
        obtain ⟨j, hj⟩ := List.getElem?_of_mem hg
        obtain ⟨j', g', u', h1, h2, h3, h4, h5⟩ := B.domS N u j g hj (fun x hx => hu x (List.mem_cons_of_mem _ hx)) (by rw [e1]; exact hd)
        refine ⟨j', g', u', h1, h2, h3, h4, leW_trans h5 ?_⟩
        have := leW_app u hle
        rwa [List.append_assoc] at this
    · exact ⟨i, e, u, hi, by omega, hu, hd, leW_refl _⟩
/-- the next state differs: its word is the first of all -/
theorem Bf.found (B : Bf f m p0 E n 0) (N : NoD dif E n) {en : α × List Nat} (hn : E[n]? = some en) (hd : dif en.1 = true) : BestS f dif m p0 en.2 where
  inr := (B.lead en (List.mem_of_getElem? hn)).2
  sep := by rw [(B.lead en (List.mem_of_getElem? hn)).1]; exact hd
  min := fun w hw hs => by
    obtain ⟨j, g, u, h1, h2, h3, h4, h5⟩ := B.domS N w 0 (p0, []) B.root hw hs
    refine leW_trans ?_ (leW_trans (leW_pre g.2 u) h5)
    rcases Nat.lt_or_eq_of_le h2 with z | z
    · exact pw_get B.srt z hn h1
    · subst z; rw [hn] at h1; cases h1; exact leW_refl _
theorem Bf.never (B : Bf f m p0 E E.length 0) (N : NoD dif E E.length) : ∀ w, InR m w → dif (goS f p0 w) = false := fun w hw => by
  cases c : dif (goS f p0 w) with
  | false => rfl
  | true =>
    obtain ⟨j, g, u, h1, h2, _⟩ := B.domS N w 0 (p0, []) B.root hw c
    have := (List.getElem?_eq_some_iff.mp h1).1
    omega
/-- .. of a whole level, the states of which have words of one length -/
theorem Bf.level (B : Bf f m p0 E n 0) (N : NoD dif E n) {l : Nat} (hl : ∀ i e, n ≤ i → E[i]? = some e → e.2.length = l) {j : Nat} {en : α × List Nat} (hnj : n ≤ j) (hj : E[j]? = some en) (hd : dif en.1 = true) (Nj : NoD dif E j) : BestS f dif m p0 en.2 where
  inr := (B.lead en (List.mem_of_getElem? hj)).2
  sep := by rw [(B.lead en (List.mem_of_getElem? hj)).1]; exact hd
  min := fun w hw hs => by
    obtain ⟨i, g, u, h1, h2, h3, h4, h5⟩ := B.domS N w 0 (p0, []) B.root hw hs
    refine leW_trans ?_ h5
    have lg := hl i g h2 h1
    have le := hl j en hnj hj
    by_cases c : i < j
    · cases u with
      | nil =>
        have := Nj i g c h1
        rw [show goS f g.1 [] = g.1 from rfl, this] at h4; cases h4
      | cons k u => exact .inl (by simp; omega)
    · refine leW_trans ?_ (leW_pre g.2 u)
      rcases Nat.lt_or_eq_of_le (Nat.le_of_not_lt c) with z | z
      · exact pw_get B.srt z hj h1
      · subst z; rw [hj] at h1; cases h1; exact leW_refl _
/-- what is told -/
def ToldS (f : α → Nat → α) (dif : α → Bool) (m : Nat) (p : α) : Option (List Nat) → Prop
  | none => ∀ w, InR m w → dif (goS f p w) = false
  | some W => BestS f dif m p W
theorem ToldS.uniq {a b : Option (List Nat)} (h : ToldS f dif m p0 a) (k : ToldS f dif m p0 b) : a = b := by
  cases a with
  | none => cases b with
    | none => rfl
    | some W => have := h W k.inr; rw [k.sep] at this; cases this
  | some V => cases b with
    | none => have := k V h.inr; rw [h.sep] at this; cases this
    | some W => rw [BestS.uniq h k]
end
/-- a comprehension whose turns change what stands -/
theorem lc_run {i : Ev → Hap.R (List D)} {t : D → Ev → Option Ev} {f : Ev → Hap.R D} {vs : List Nat} {g : Nat → D} {n : Nat} {ρ ρ1 : Ev} (I : Nat → List D → Ev → Prop)
    (hi : i ρ = .ok ((List.range n).map g) ρ1) (him : immAt ρ1 vs = true) (hl : n ≤ sizeLine) (h0 : I 0 [] (wipeE ρ1 vs))
    (hs : ∀ k acc W, k < n → I k acc W → ∃ ρ2, t (g k) W = some ρ2 ∧ ∃ d ρ4, f ρ2 = .ok d ρ4 ∧ I (k + 1) (acc ++ [d]) (wipeE ρ4 vs)) :
    ∃ acc W, fLc i t fYes f vs ρ = .ok (.lst true acc) (backE ρ1 W vs) ∧ I n acc W := by
  have key : ∀ (m k : Nat) (acc : List D) (W : Ev), k + m = n → I k acc W → ∃ acc' W', loopC t fYes f vs ((List.range' k m).map g) acc W = .ok acc' W' ∧ I n acc' W' := by
    intro m
    induction m with
    | zero => intro k acc W e hI; rw [Nat.add_zero] at e; subst e; exact ⟨acc, W, rfl, hI⟩
    | succ m ih =>
      intro k acc W e hI
      obtain ⟨ρ2, h1, d, ρ4, h2, h3⟩ := hs k acc W (by omega) hI
      obtain ⟨acc', W', h4, h5⟩ := ih (k + 1) _ _ (by omega) h3
      refine ⟨acc', W', ?_, h5⟩
      rw [List.range'_succ, List.map_cons, loopC, h1]
      dsimp only [fYes]
      rw [h2]
      exact h4
  obtain ⟨acc, W, h1, h2⟩ := key n 0 [] _ (by omega) h0
  refine ⟨acc, W, ?_, h2⟩
  unfold fLc
  rw [hi]
  dsimp only [R.bind]
  rw [if_pos ⟨him, by rw [List.length_map, List.length_range]; exact hl⟩, List.range_eq_range', h1]
def growB (s : Nat) (rs : List (List Nat)) : List (List Nat) := rs.flatMap fun x => (List.range s).map fun i => x ++ [i]
theorem growB_len (s : Nat) : ∀ rs : List (List Nat), (growB s rs).length = rs.length * s
  | [] => by simp [growB]
  | x :: rs => by
    have ih := growB_len s rs
    unfold growB at ih ⊢
    rw [List.flatMap_cons, List.length_append, List.length_map, List.length_range, ih, List.length_cons, Nat.succ_mul]; omega
theorem growB_app (s : Nat) (rs qs : List (List Nat)) : growB s (rs ++ qs) = growB s rs ++ growB s qs := by unfold growB; rw [List.flatMap_append]
theorem mem_growB {s : Nat} {rs : List (List Nat)} {x : List Nat} : x ∈ growB s rs ↔ ∃ y ∈ rs, ∃ i, i < s ∧ x = y ++ [i] := by
  unfold growB
  rw [List.mem_flatMap]
  constructor
  · rintro ⟨y, hy, h⟩
    obtain ⟨i, hi, rfl⟩ := List.mem_map.mp h
    exact ⟨y, hy, i, List.mem_range.mp hi, rfl⟩
  · rintro ⟨y, hy, i, hi, rfl⟩
    exact ⟨y, hy, List.mem_map.mpr ⟨i, List.mem_range.mpr hi, rfl⟩⟩
theorem growB_nodup (s : Nat) : ∀ {rs : List (List Nat)}, rs.Nodup → (growB s rs).Nodup
  | [], _ => by simp [growB]
  | x :: rs, h => by
    have h' := List.nodup_cons.mp h
    have ih := growB_nodup s h'.2
    have e : growB s (x :: rs) = ((List.range s).map fun i => x ++ [i]) ++ growB s rs := rfl
    rw [e, List.nodup_append]
    refine ⟨?_, ih, fun a ha b hb e2 => ?_⟩
    · rw [List.nodup_iff_pairwise_ne, List.pairwise_map]
      refine (List.nodup_iff_pairwise_ne.mp List.nodup_range).imp fun {a b} hne e2 => hne ?_
      exact (List.cons.inj (List.append_cancel_left e2)).1
    · subst e2
      obtain ⟨i, _, rfl⟩ := List.mem_map.mp ha
      obtain ⟨y, hy, j, _, e3⟩ := mem_growB.mp hb
      have := (List.append_inj' e3 rfl).1
      subst this
      exact h'.1 hy
def keyN (own : List Nat) (x : List Nat) : List Nat := own.map fun i => x.getD i 0
theorem ext_getD {n : Nat} {x y : List Nat} (h1 : x.length = n) (h2 : y.length = n) (h : ∀ i, i < n → x.getD i 0 = y.getD i 0) : x = y := by
  refine List.ext_getElem? fun i => ?_
  by_cases c : i < n
  · have := h i c
    rw [List.getD_eq_getElem?_getD, List.getD_eq_getElem?_getD, List.getElem?_eq_getElem (by omega), List.getElem?_eq_getElem (by omega)] at this
    rw [List.getElem?_eq_getElem (by omega), List.getElem?_eq_getElem (by omega)]
    exact congrArg some this
  · rw [List.getElem?_eq_none (by omega), List.getElem?_eq_none (by omega)]
theorem v2_of {g : D → D → Option D} {f k : Ev → Option D} {ρ : Ev} {d e x : D} (h1 : f ρ = some d) (h2 : k ρ = some e) (h3 : g d e = some x) : vOp2 g f k ρ = some x := by
  rw [ap_v2, h1, Option.bind_some, h2, Option.bind_some, h3]
theorem vN1_of {g : List D → Option D} {f : Ev → Option D} {ρ : Ev} {d x : D} (h1 : f ρ = some d) (h3 : g [d] = some x) : vOpN g (vCons f vNil) ρ = some x := by
  rw [ap_vN, ap_vcons, h1, Option.bind_some, ap_vnil, Option.bind_some, Option.bind_some, h3]
theorem tv_of {f : Ev → Option D} {ρ : Ev} {b : Bool} (h : f ρ = some (.bl b)) : fTv f ρ = .ok b ρ := by rw [ap_tv, h, blV_s]
def kD (x : List Nat) : D := .tup (x.map natD)
@[simp] theorem frz_kD {x : List Nat} : frz (kD x) = kD x := by unfold kD; rw [frz_tup, frzs_mapf (g := natD) fun _ _ => rfl]
@[simp] theorem imm_kD {x : List Nat} : isImm (kD x) = true := by unfold kD; rw [imm_tup]; exact imms_map fun _ _ => rfl
theorem frzs_kD {rs : List (List Nat)} : frzs (rs.map kD) = rs.map kD := frzs_mapf fun _ _ => frz_kD
theorem imms_kD {rs : List (List Nat)} : isImms (rs.map kD) = true := imms_map fun _ _ => imm_kD
theorem sh_kD {x : List Nat} : Sh 60 (kD x) := sh_tup (n := 59) fun d hd => by obtain ⟨y, _, rfl⟩ := List.mem_map.mp hd; exact sh_int
theorem eqd_kD : EqD kD := fun xs ys => by simp only [kD, toPy, PyData.eqv, eqd_all eqd_natD]
theorem dt7 {s : Nat} (hs : s ≤ 3) {x : List Nat} (hx : x.length ≤ 10) {gs : List (List Nat)} (hg : gs.length ≤ 100) {v0 v1 v2 v3 v4 v7 v8 v9 v10 v11 v12 v13 v14 v15 v16 v17 v18 v19 : Option D} :
    stepS (gN 7) l__law_drawn_table_7 (kD x) [v0, v1, v2, v3, v4, some (.int (s : Int)), some (.lst true (gs.map kD)), v7, v8, v9, v10, v11, v12, v13, v14, v15, v16, v17, v18, v19, none]
      = .nx [v0, v1, v2, v3, v4, some (.int (s : Int)), some (.lst true ((gs ++ (List.range s).map fun i => x ++ [i]).map kD)), some (kD x), v8, v9, v10, v11, v12, v13, v14, v15, v16, v17, v18, v19, none] := by
  have r1 := rng1_n (n := s) (by omega)
  have hs1 : 1 ≤ sizeLine := by decide
  have hsx : x.length + 1 ≤ sizeLine := by unfold sizeLine; omega
  have ad : ∀ i : Nat, gAddT (kD x) (.tup [.int (i : Int)]) = some (kD (x ++ [i])) := fun i => by
    unfold kD
    rw [add_tt, if_pos ⟨⟨imms_map fun _ _ => rfl, rfl⟩, by rw [List.length_map]; exact hsx⟩, List.map_append]; rfl
  have lc : ∀ v6, fLc (fItN rng1 (fCons (fVar 5) fNil)) (gN 20) fYes (fI (vOp2 gAddT (vVar 7) (vTup (vCons (vVar 20) vNil)))) [20] [v0, v1, v2, v3, v4, some (.int (s : Int)), v6, some (kD x), v8, v9, v10, v11, v12, v13, v14, v15, v16, v17, v18, v19, none]
      = .ok (.lst true ((List.range s).map fun i => kD (x ++ [i]))) [v0, v1, v2, v3, v4, some (.int (s : Int)), v6, some (kD x), v8, v9, v10, v11, v12, v13, v14, v15, v16, v17, v18, v19, none] := fun v6 => by
    refine lc_all (g := fun i : Nat => .int (i : Int)) (e := fun i => kD (x ++ [i])) (by simp [r1]) (by simp) (by rw [List.length_range]; unfold sizeLine; omega) fun i _ => ?_
    have ai := ad i
    have ik := imm_kD (x := x ++ [i])
    generalize kD (x ++ [i]) = K2 at *
    generalize kD x = K1 at *
    exact ⟨[v0, v1, v2, v3, v4, some (.int (s : Int)), v6, some K1, v8, v9, v10, v11, v12, v13, v14, v15, v16, v17, v18, v19, some (.int (i : Int))], by simp, [v0, v1, v2, v3, v4, some (.int (s : Int)), v6, some K1, v8, v9, v10, v11, v12, v13, v14, v15, v16, v17, v18, v19, some (.int (i : Int))], by simp [hs1, ai, ik], by simp⟩
  have fz : frzs ((List.range s).map fun i => kD (x ++ [i])) = (List.range s).map fun i => kD (x ++ [i]) := frzs_mapf fun _ _ => frz_kD
  have hl : (gs.map kD).length + ((List.range s).map fun i => kD (x ++ [i])).length ≤ sizeLine := by rw [List.length_map, List.length_map, List.length_range]; unfold sizeLine; omega
  have em : (gs ++ (List.range s).map fun i => x ++ [i]).map kD = gs.map kD ++ (List.range s).map fun i => kD (x ++ [i]) := by rw [List.map_append, List.map_map]; rfl
  rw [ap_step, em]; unfold l__law_drawn_table_7
  generalize ((List.range s).map fun i => kD (x ++ [i])) = ZS at *
  generalize gs.map kD = GS at *
  generalize kD x = K1 at *
  simp [lc, fz, hl]
def kK (x : List Nat) : List Key := x.map fun i : Nat => (Sum.inl (i : Int) : Key)
theorem kK_inj : ∀ {x y : List Nat}, kK x = kK y ↔ x = y
  | [], [] => by simp [kK]
  | [], _ :: _ => by simp [kK]
  | _ :: _, [] => by simp [kK]
  | a :: x, b :: y => by
    have ih := kK_inj (x := x) (y := y)
    unfold kK at ih ⊢
    rw [List.map_cons, List.map_cons, List.cons.injEq, List.cons.injEq, ih]
    constructor
    · rintro ⟨h1, h2⟩
      have := Sum.inl.inj h1
      exact ⟨by omega, h2⟩
    · rintro ⟨h1, h2⟩; exact ⟨by rw [h1], h2⟩
theorem keysOf_kK : ∀ x : List Nat, keysOf (x.map natD) = some (kK x)
  | [] => rfl
  | a :: x => by
    rw [List.map_cons]; unfold keysOf
    rw [keysOf_kK x]; rfl
theorem memK_iff {κ : Type} [DecidableEq κ] {k : κ} {ks : List κ} : memK k ks = true ↔ k ∈ ks := by unfold memK; exact decide_eq_true_iff
theorem kD_at {x : List Nat} {i : Nat} (hi : i < x.length) : gIx (kD x) (.int (i : Int)) = some (natD (x.getD i 0)) := by
  unfold kD
  rw [ix_t, at_nat, List.getElem?_map, List.getElem?_eq_getElem hi, List.getD_eq_getElem?_getD, List.getElem?_eq_getElem hi]; rfl
/-- what the memories are -/
structure Box3 (n : Nat) (sz : Nat → Nat) (rs : List (List Nat)) : Prop where
  mem : ∀ x, x ∈ rs ↔ x.length = n ∧ ∀ i, i < n → x.getD i 0 < sz i
  nodup : rs.Nodup
  len : rs.length ≤ 3 ^ n
  ne : 1 ≤ rs.length
theorem Box3.zero {sz : Nat → Nat} : Box3 0 sz [[]] := ⟨fun x => by
  rw [List.mem_singleton]
  exact ⟨fun e => by subst e; exact ⟨rfl, fun i hi => by omega⟩, fun h => List.eq_nil_of_length_eq_zero h.1⟩, by simp, by simp, by simp⟩
theorem snoc_getD {n : Nat} {y : List Nat} {i j : Nat} (hy : y.length = n) : (y ++ [i]).getD j 0 = if j = n then i else y.getD j 0 := by
  rw [List.getD_eq_getElem?_getD, List.getElem?_append]
  by_cases c : j = n
  · rw [if_pos c, if_neg (by omega), c, hy]; simp
  · rw [if_neg c]
    by_cases c2 : j < y.length
    · rw [if_pos c2, List.getD_eq_getElem?_getD]
    · rw [if_neg c2, List.getElem?_eq_none (by simp; omega), List.getD_eq_getElem?_getD, List.getElem?_eq_none (by omega)]
theorem Box3.step {n s : Nat} {sz : Nat → Nat} {rs : List (List Nat)} (B : Box3 n sz rs) (hs : 1 ≤ s) (h3 : s ≤ 3) (e : sz n = s) : Box3 (n + 1) sz (growB s rs) := by
  refine ⟨fun x => ?_, growB_nodup s B.nodup, by rw [growB_len, Nat.pow_succ]; exact Nat.mul_le_mul B.len h3, by rw [growB_len]; exact Nat.mul_le_mul B.ne hs⟩
  rw [mem_growB]
  constructor
  · rintro ⟨y, hy, i, hi, rfl⟩
    obtain ⟨h1, h2⟩ := (B.mem y).mp hy
    refine ⟨by simp [h1], fun j hj => ?_⟩
    rw [snoc_getD h1]
    by_cases c : j = n
    · rw [if_pos c, c, e]; exact hi
    · rw [if_neg c]; exact h2 j (by omega)
  · rintro ⟨h1, h2⟩
    have ex : x = x.take n ++ [x.getD n 0] := by
      have e1 : x.drop n = [x.getD n 0] := by
        rw [List.drop_eq_getElem_cons (by omega), List.drop_eq_nil_of_le (by omega), List.getD_eq_getElem?_getD, List.getElem?_eq_getElem (by omega)]; rfl
      rw [← e1, List.take_append_drop]
    have lt : (x.take n).length = n := by rw [List.length_take]; omega
    refine ⟨x.take n, (B.mem _).mpr ⟨lt, fun i hi => ?_⟩, x.getD n 0, ?_, ex⟩
    · have := h2 i (by omega)
      rw [ex, snoc_getD lt, if_neg (by omega)] at this
      exact this
    · have := h2 n (by omega)
      rwa [e] at this
theorem dt8 {s : Nat} (hs : s ≤ 3) {rs : List (List Nat)} (lx : ∀ x ∈ rs, x.length ≤ 10) (hl : rs.length ≤ 27) {o : Bool} {v0 v1 v2 v3 v5 v6 v7 v8 v9 v10 v11 v12 v13 v14 v15 v16 v17 v18 v19 : Option D} : ∃ (v6' v7' : Option D),
    stepS (gN 5) l__law_drawn_table_8 (.int (s : Int)) [v0, v1, v2, v3, some (.lst o (rs.map kD)), v5, v6, v7, v8, v9, v10, v11, v12, v13, v14, v15, v16, v17, v18, v19, none]
      = .nx [v0, v1, v2, v3, some (.lst false ((growB s rs).map kD)), some (.int (s : Int)), v6', v7', v8, v9, v10, v11, v12, v13, v14, v15, v16, v17, v18, v19, none] := by
  have h0 : 0 ≤ sizeLine := by decide
  obtain ⟨ρ', lp, v7', rfl⟩ := loopM (step := stepS (gN 7) l__law_drawn_table_7) (f := kD) (xs := rs) (ρ := [v0, v1, v2, v3, some (.lst false (rs.map kD)), some (.int (s : Int)), some (.lst true ((growB s (rs.take 0)).map kD)), v7, v8, v9, v10, v11, v12, v13, v14, v15, v16, v17, v18, v19, none])
    (fun j ρ => ∃ v7 : Option D, ρ = [v0, v1, v2, v3, some (.lst false (rs.map kD)), some (.int (s : Int)), some (.lst true ((growB s (rs.take j)).map kD)), v7, v8, v9, v10, v11, v12, v13, v14, v15, v16, v17, v18, v19, none])
    ⟨v7, rfl⟩ (by
      rintro j x ρ hj ⟨w7, rfl⟩
      have hjl := (List.getElem?_eq_some_iff.mp hj).1
      have tk : rs.take (j + 1) = rs.take j ++ [x] := by rw [List.take_succ, hj]; rfl
      have gl : (growB s (rs.take j)).length ≤ 100 := by
        rw [growB_len, List.length_take]
        have : min j rs.length * s ≤ 27 * 3 := Nat.mul_le_mul (by omega) hs
        omega
      have e := dt7 hs (lx x (List.mem_of_getElem? hj)) gl (v0 := v0) (v1 := v1) (v2 := v2) (v3 := v3) (v4 := some (.lst false (rs.map kD))) (v7 := w7) (v8 := v8) (v9 := v9) (v10 := v10) (v11 := v11) (v12 := v12) (v13 := v13) (v14 := v14) (v15 := v15) (v16 := v16) (v17 := v17) (v18 := v18) (v19 := v19)
      refine ⟨_, e, some (kD x), ?_⟩
      rw [tk, growB_app]
      have : growB s [x] = (List.range s).map fun i => x ++ [i] := by unfold growB; rw [List.flatMap_cons, List.flatMap_nil, List.append_nil]
      rw [this])
  rw [List.take_length] at lp
  have fzR := frzs_kD (rs := rs)
  have imR := imms_kD (rs := rs)
  have fzG := frzs_kD (rs := growB s rs)
  have lp : loopS (stepS (gN 7) l__law_drawn_table_7) (rs.map kD) [v0, v1, v2, v3, some (.lst false (rs.map kD)), some (.int (s : Int)), some (.lst true []), v7, v8, v9, v10, v11, v12, v13, v14, v15, v16, v17, v18, v19, none] = _ := lp
  refine ⟨some (.lst false ((growB s rs).map kD)), v7', ?_⟩
  rw [ap_step]; unfold l__law_drawn_table_8
  generalize (growB s rs).map kD = GG at *
  generalize rs.map kD = RS at *
  simp [h0, fzR, imR, lp, fzG]
/-- one more letter's rule: of each key that was met what is due -/
def ruO (P : List (List Nat × List Nat)) : D := .dcT true (P.map fun p => kK p.1) (P.map fun p => ownD true p.2)
def ruF (P : List (List Nat × List Nat)) : D := .dcT false (P.map fun p => kK p.1) (P.map fun p => ownD false p.2)
theorem frz_ru {P : List (List Nat × List Nat)} : frz (ruO P) = ruF P := by
  unfold ruO ruF
  have : frzs (P.map fun p => ownD true p.2) = P.map fun p => ownD false p.2 := frzs_mapf fun _ _ => frz_own
  show D.dcT false _ (frzs _) = _
  rw [this]
theorem imm_ruF {P : List (List Nat × List Nat)} : isImm (ruF P) = true := by
  unfold ruF
  show (!false && isImms _) = true
  rw [imms_map fun _ _ => imm_own]; rfl
def lkQ : List (List Nat × List Nat) → List Nat → Option (List Nat)
  | [], _ => none
  | p :: P, x => if p.1 = x then some p.2 else lkQ P x
theorem lkQ_cons {p : List Nat × List Nat} {P : List (List Nat × List Nat)} {x : List Nat} : lkQ (p :: P) x = if p.1 = x then some p.2 else lkQ P x := rfl
theorem lkQ_app {P Q : List (List Nat × List Nat)} {x : List Nat} : lkQ (P ++ Q) x = match lkQ P x with | some y => some y | none => lkQ Q x := by
  induction P with
  | nil => rfl
  | cons p P ih =>
    rw [List.cons_append, lkQ_cons, lkQ_cons]
    by_cases c : p.1 = x
    · rw [if_pos c, if_pos c]
    · rw [if_neg c, if_neg c, ih]
theorem lkQ_mem {P : List (List Nat × List Nat)} {x y : List Nat} (h : lkQ P x = some y) : ∃ p ∈ P, p.1 = x ∧ p.2 = y := by
  induction P with
  | nil => cases h
  | cons p P ih =>
    rw [lkQ_cons] at h
    by_cases c : p.1 = x
    · rw [if_pos c] at h; cases h
      exact ⟨p, List.mem_cons_self, c, rfl⟩
    · rw [if_neg c] at h
      obtain ⟨q, h1, h2⟩ := ih h
      exact ⟨q, List.mem_cons_of_mem _ h1, h2⟩
theorem ruF_get : ∀ (P : List (List Nat × List Nat)) (x : List Nat), getK (P.map fun p => kK p.1) (P.map fun p => ownD false p.2) (kK x) = (lkQ P x).map (ownD false)
  | [], x => rfl
  | p :: P, x => by
    rw [List.map_cons, List.map_cons]
    unfold getK
    rw [ruF_get P x, lkQ_cons]
    by_cases c : p.1 = x
    · rw [if_pos (kK_inj.mpr c), if_pos c]; rfl
    · rw [if_neg fun z => c (kK_inj.mp z), if_neg c]
theorem ruF_ix {P : List (List Nat × List Nat)} {x y : List Nat} (h : lkQ P x = some y) : gIx (ruF P) (kD x) = some (ownD false y) := by
  show (keysOf (x.map natD)).bind _ = _
  rw [keysOf_kK, Option.bind_some, ruF_get, h]; rfl
theorem ruO_mem : ∀ {P : List (List Nat × List Nat)} {x : List Nat}, kK x ∈ (P.map fun p => kK p.1) ↔ (lkQ P x).isSome = true
  | [], x => by simp [lkQ]
  | p :: P, x => by
    rw [List.map_cons, List.mem_cons, ruO_mem (P := P), lkQ_cons]
    by_cases c : p.1 = x
    · rw [if_pos c]; exact ⟨fun _ => rfl, fun _ => .inl (kK_inj.mpr c.symm)⟩
    · rw [if_neg c]
      exact ⟨fun z => z.resolve_left fun w => c (kK_inj.mp w).symm, .inr⟩
theorem ruO_memK {P : List (List Nat × List Nat)} {x : List Nat} : memK (kK x) (P.map fun p => kK p.1) = (lkQ P x).isSome := by
  rw [Bool.eq_iff_iff, memK_iff]
  exact ruO_mem
theorem ruO_nin {P : List (List Nat × List Nat)} {x : List Nat} : gNin (kD x) (ruO P) = some (.bl (!(lkQ P x).isSome)) := by
  have e : gNin (kD x) (ruO P) = ((keysOf (x.map natD)).map fun k => memK k (P.map fun p => kK p.1)).map fun b => D.bl (!b) := rfl
  rw [e, keysOf_kK, Option.map_some, Option.map_some, ruO_memK]
theorem keysT_kD {x : List Nat} : keysT (kD x) = some (kK x) := keysOf_kK x
/-- the new key stands last -/
theorem posK_last : ∀ {P : List (List Nat × List Nat)} {x y : List Nat}, lkQ P x = none → posK ((P ++ [(x, y)]).map fun p => kK p.1) (kK x) = some P.length
  | [], x, y, _ => by
    show (if kK x = kK x then some 0 else _) = _
    rw [if_pos rfl]; rfl
  | p :: P, x, y, h => by
    rw [lkQ_cons] at h
    by_cases c : p.1 = x
    · rw [if_pos c] at h; cases h
    · rw [if_neg c] at h
      rw [List.cons_append, List.map_cons]
      show (if kK p.1 = kK x then some 0 else (posK ((P ++ [(x, y)]).map fun p => kK p.1) (kK x)).map (· + 1)) = _
      rw [if_neg fun z => c (kK_inj.mp z), posK_last h]; rfl
theorem own_items {o : Bool} {xs : List Nat} : itemsL (ownD o xs) = some (xs.map natD) := by
  unfold ownD
  rw [items_l, frzs_mapf (f := natD) (g := natD) fun _ _ => rfl]
theorem own_ix {o : Bool} {xs : List Nat} {i : Nat} (hi : i < xs.length) : gIx (ownD o xs) (.int (i : Int)) = some (natD (xs.getD i 0)) := by
  unfold ownD
  rw [ix_l, at_nat, List.getElem?_map, List.getElem?_eq_getElem hi, List.getD_eq_getElem?_getD, List.getElem?_eq_getElem hi]; rfl
theorem dTO1_ru {P : List (List Nat × List Nat)} {k : List (List Key) → List D → RS} : dTO1 (some (some (ruO P))) k = k (P.map fun p => kK p.1) (P.map fun p => ownD true p.2) := rfl
theorem dt4 {P : List (List Nat × List Nat)} {x acc szl : List Nat} {i k : Nat} {g : D} (hn : lkQ P x = none) (hi : i < szl.length) (hs1 : 1 ≤ szl.getD i 0) (hs3 : szl.getD i 0 ≤ 3) (hb : Bag k g) (hk : k < 2 ^ 40) (ha : acc.length ≤ 10)
    {v1 v2 v4 v5 v6 v7 v8 v9 v10 v13 v14 v15 v16 v17 v18 v19 v20 : Option D} : ∃ (g' : D) (r : Nat), r < szl.getD i 0 ∧ Bag (k + 1) g' ∧
    stepS (gN 13) l__law_drawn_table_4 (natD i) [some g, v1, v2, some (ownD false szl), v4, v5, v6, v7, v8, v9, v10, some (ruO (P ++ [(x, acc)])), some (kD x), v13, v14, v15, v16, v17, v18, v19, v20]
      = .nx [some g', v1, v2, some (ownD false szl), v4, v5, v6, v7, v8, v9, v10, some (ruO (P ++ [(x, acc ++ [r])])), some (kD x), some (natD i), v14, v15, v16, v17, v18, v19, v20] := by
  obtain ⟨r, g1, hr, hb1, t1⟩ := take_spec (m := (szl.getD i 0 : Int)) hb (by omega) (by omega) (by omega)
  refine ⟨g1, r, by omega, hb1, ?_⟩
  have ix := own_ix (o := false) hi
  have at' : ∀ kk : Nat → List D → RS, atK ((P ++ [(x, acc)]).map fun p => kK p.1) ((P ++ [(x, acc)]).map fun p => ownD true p.2) (some (kD x)) kk = kk P.length (acc.map natD) := fun kk =>
    atK_at keysT_kD (posK_last hn) (by rw [List.map_append, List.getElem?_append_right (by simp)]; simp; rfl)
  have ls : (acc.map natD).length < sizeLine := by rw [List.length_map]; unfold sizeLine; omega
  have e1 : D.dcT true ((P ++ [(x, acc)]).map fun p => kK p.1) (((P ++ [(x, acc)]).map fun p => ownD true p.2).set P.length (.lst true (acc.map natD ++ [.int (r : Int)]))) = ruO (P ++ [(x, acc ++ [r])]) := by
    unfold ruO
    have a1 : ((P ++ [(x, acc)]).map fun p => kK p.1) = ((P ++ [(x, acc ++ [r])]).map fun p => kK p.1) := by simp
    have a2 : ((P ++ [(x, acc)]).map fun p => ownD true p.2).set P.length (.lst true (acc.map natD ++ [.int (r : Int)])) = ((P ++ [(x, acc ++ [r])]).map fun p => ownD true p.2) := by
      rw [List.map_append, List.map_append, List.set_append_right _ _ (by simp)]
      have e3 : ownD true (acc ++ [r]) = .lst true (acc.map natD ++ [.int (r : Int)]) := by unfold ownD; rw [List.map_append]; rfl
      simp [e3]
    rw [a1, a2]
  rw [ap_step, ← e1]; unfold l__law_drawn_table_4
  have d1 := fun kk => dTO1_ru (P := P ++ [(x, acc)]) (k := kk)
  have e5 : natD (szl.getD i 0) = .int (szl.getD i 0 : Int) := rfl
  rw [e5] at ix
  have e6 : natD i = .int (i : Int) := rfl
  rw [e6]
  generalize szl.getD i 0 = sz at *
  generalize (P ++ [(x, acc)]).map (fun p => kK p.1) = KS at *
  generalize (P ++ [(x, acc)]).map (fun p => ownD true p.2) = XS at *
  generalize ruO (P ++ [(x, acc)]) = RU at *
  generalize acc.map natD = AC at *
  generalize ownD false szl = SZ at *
  generalize kD x = KX at *
  simp [d1, at', ix, t1, ls]
def Good (szl own due : List Nat) : Prop := due.length = own.length ∧ ∀ t, t < own.length → due.getD t 0 < szl.getD (own.getD t 0) 0
structure SzOk (h : Nat) (szl : List Nat) : Prop where
  len : szl.length = h
  lo : ∀ i, i < h → 1 ≤ szl.getD i 0
  hi : ∀ i, i < h → szl.getD i 0 ≤ 3
theorem dt5 (H : House h L) {szl : List Nat} (Z : SzOk h szl) {e : Nat × List Nat} (he : e ∈ L) {P : List (List Nat × List Nat)} (hP : ∀ p ∈ P, Good szl e.2 p.2) (hPl : P.length ≤ 100) {x : List Nat} (lx : x.length = h) {k : Nat} {g : D} (hb : Bag k g) (hk : k < 2 ^ 39)
    {v1 v2 v4 v5 v6 v7 v8 v9 v12 v13 v14 v15 v16 v17 v18 v19 v20 : Option D} (i13 : immO (some v13) = true) :
    ∃ (g' : D) (P' : List (List Nat × List Nat)) (due : List Nat) (v13' : Option D), stepS (gN 7) l__law_drawn_table_5 (kD x) [some g, v1, v2, some (ownD false szl), v4, v5, v6, v7, v8, v9, some (ownD false e.2), some (ruO P), v12, v13, v14, v15, v16, v17, v18, v19, v20]
      = .nx [some g', v1, v2, some (ownD false szl), v4, v5, v6, some (kD x), v8, v9, some (ownD false e.2), some (ruO P'), some (kD (keyN e.2 x)), v13', v14, v15, v16, v17, v18, v19, v20] ∧
      Bag (k + 4) g' ∧ (∀ p ∈ P', Good szl e.2 p.2) ∧ P'.length ≤ P.length + 1 ∧ (∀ z w, lkQ P z = some w → lkQ P' z = some w) ∧ lkQ P' (keyN e.2 x) = some due ∧ immO (some v13') = true := by
  have h4 := H.h4
  have wo := H.own e he
  have few := rise_len e.2 0 h wo.rise fun x hx => ⟨by omega, wo.lt x hx⟩
  obtain ⟨OW, hOW⟩ : ∃ OW, OW = e.2 := ⟨_, rfl⟩
  rw [← hOW] at wo few hP ⊢
  have oi := own_items (o := false) (xs := OW)
  have fo : frz (ownD false OW) = ownD false OW := frz_own
  have lc1 : fLc (fIt itemsL (fVar 10)) (gN 13) fYes (fI (vOp2 gIx (vVar 7) (vVar 13))) [13] [some g, v1, v2, some (ownD false szl), v4, v5, v6, some (kD x), v8, v9, some (ownD false OW), some (ruO P), v12, v13, v14, v15, v16, v17, v18, v19, v20]
      = .ok (.lst true (OW.map fun i => natD (x.getD i 0))) [some g, v1, v2, some (ownD false szl), v4, v5, v6, some (kD x), v8, v9, some (ownD false OW), some (ruO P), v12, v13, v14, v15, v16, v17, v18, v19, v20] := by
    refine lc_all (g := natD) (by simp [fo, oi]) (by simp [i13]) (by unfold sizeLine; omega) fun i hi => ?_
    have ka := kD_at (x := x) (i := i) (by rw [lx]; exact wo.lt i hi)
    generalize kD x = KX at *
    generalize ownD false OW = OE at *
    generalize ownD false szl = SZ at *
    generalize ruO P = RU at *
    exact ⟨[some g, v1, v2, some SZ, v4, v5, v6, some KX, v8, v9, some OE, some RU, v12, some (.int (i : Int)), v14, v15, v16, v17, v18, v19, v20], by simp [natD], [some g, v1, v2, some SZ, v4, v5, v6, some KX, v8, v9, some OE, some RU, v12, some (.int (i : Int)), v14, v15, v16, v17, v18, v19, v20], by simp [ka, natD], by simp⟩
  have gk : gTuple [.lst true (OW.map fun i => natD (x.getD i 0))] = some (kD (keyN OW x)) := by
    show (if _ then _ else _) = _
    rw [if_pos (imms_map fun _ _ => rfl)]
    unfold kD keyN
    rw [List.map_map]; rfl
  have iK := imm_kD (x := keyN OW x)
  have fK := frz_kD (x := keyN OW x)
  have nin := ruO_nin (P := P) (x := keyN OW x)
  have iX := imm_kD (x := x)
  have fX := frz_kD (x := x)
  rw [ap_step]; unfold l__law_drawn_table_5
  cases c : lkQ P (keyN OW x) with
  | some due =>
    rw [c] at nin
    refine ⟨g, P, due, v13, ?_, hb.mono (by omega), hP, by omega, fun _ _ h => h, c, i13⟩
    generalize (OW.map fun i => natD (x.getD i 0)) = KM at *
    generalize kD (keyN OW x) = KK at *
    generalize kD x = KX at *
    generalize ruO P = RU at *
    generalize ownD false OW = OE at *
    generalize ownD false szl = SZ at *
    simp [lc1, gk, nin]
  | none =>
    rw [c] at nin
    have mk : memK (kK (keyN OW x)) (P.map fun p => kK p.1) = false := by rw [ruO_memK, c]; rfl
    have put : ∀ ρ : Ev, putO (some (some (ruO P))) 11 (kD (keyN OW x)) (.lst true []) ρ = .nx (ρ.set 11 (some (ruO (P ++ [(keyN OW x, [])])))) := fun ρ => by
      have : ruO (P ++ [(keyN OW x, [])]) = .dcT true ((P.map fun p => kK p.1) ++ [kK (keyN OW x)]) ((P.map fun p => ownD true p.2) ++ [.lst true []]) := by unfold ruO; rw [List.map_append, List.map_append]; rfl
      rw [this]
      exact putO_at keysT_kD mk (by rw [List.length_map]; unfold sizeLine; omega)
    have sz : ∀ i ∈ OW, i < szl.length := fun i hi => by rw [Z.len]; exact wo.lt i hi
    obtain ⟨ρ', lp, g', due, w13, rfl, hb', hdl, hdv, i13'⟩ := loopM (step := stepS (gN 13) l__law_drawn_table_4) (f := natD) (xs := OW) (ρ := [some g, v1, v2, some (ownD false szl), v4, v5, v6, some (kD x), v8, v9, some (ownD false OW), some (ruO (P ++ [(keyN OW x, [])])), some (kD (keyN OW x)), v13, v14, v15, v16, v17, v18, v19, v20])
      (fun j ρ => ∃ (g' : D) (due : List Nat) (w13 : Option D), ρ = [some g', v1, v2, some (ownD false szl), v4, v5, v6, some (kD x), v8, v9, some (ownD false OW), some (ruO (P ++ [(keyN OW x, due)])), some (kD (keyN OW x)), w13, v14, v15, v16, v17, v18, v19, v20] ∧ Bag (k + j) g' ∧ due.length = j ∧ (∀ t, t < j → due.getD t 0 < szl.getD (OW.getD t 0) 0) ∧ immO (some w13) = true)
      ⟨g, [], v13, rfl, hb, rfl, fun t ht => by omega, i13⟩ (by
        rintro j i ρ hj ⟨g', due, w13, rfl, hb', hdl, hdv, _⟩
        have hjl := (List.getElem?_eq_some_iff.mp hj).1
        have him := List.mem_of_getElem? hj
        have hih := wo.lt i him
        obtain ⟨g2, r, hr, hb2, st⟩ := dt4 c (sz i him) (Z.lo i hih) (Z.hi i hih) hb' (by omega) (acc := due) (by omega) (v1 := v1) (v2 := v2) (v4 := v4) (v5 := v5) (v6 := v6) (v7 := some (kD x)) (v8 := v8) (v9 := v9) (v10 := some (ownD false OW)) (v13 := w13) (v14 := v14) (v15 := v15) (v16 := v16) (v17 := v17) (v18 := v18) (v19 := v19) (v20 := v20)
        refine ⟨_, st, g2, due ++ [r], _, rfl, hb2, by simp [hdl], fun t ht => ?_, rfl⟩
        rw [snoc_getD hdl]
        by_cases c2 : t = j
        · rw [if_pos c2, c2, List.getD_eq_getElem?_getD (l := OW), hj]; exact hr
        · rw [if_neg c2]; exact hdv t (by omega))
    refine ⟨g', P ++ [(keyN OW x, due)], due, w13, ?_, hb'.mono (by omega), fun p hp => ?_, by simp, fun z w hz => by rw [lkQ_app, hz], ?_, i13'⟩
    · have h0 : 0 ≤ sizeLine := by decide
      have oi2 := own_items (o := false) (xs := OW)
      unfold natD at oi2
      generalize (OW.map fun i => natD (x.getD i 0)) = KM at *
      generalize kD (keyN OW x) = KK at *
      generalize kD x = KX at *
      generalize ruO P = RU at *
      generalize ruO (P ++ [(keyN OW x, [])]) = RU1 at *
      generalize ownD false OW = OE at *
      generalize ownD false szl = SZ at *
      simp [lc1, gk, nin, h0, put, fK, fo, oi, lp]
    · rcases List.mem_append.mp hp with z | z
      · exact hP p z
      · rw [List.mem_singleton] at z; subst z; exact ⟨hdl, hdv⟩
    · rw [lkQ_app, c]
      show (if keyN OW x = keyN OW x then some due else none) = _
      rw [if_pos rfl]
/-- what a letter's rule tells -/
def RuOk (szl own : List Nat) (rs : List (List Nat)) (P : List (List Nat × List Nat)) : Prop := ∀ x ∈ rs, ∃ due, lkQ P (keyN own x) = some due ∧ Good szl own due
theorem dt6 (H : House h L) {szl : List Nat} (Z : SzOk h szl) {sz : Nat → Nat} {rs : List (List Nat)} (B : Box3 h sz rs) {e : Nat × List Nat} (he : e ∈ L) {Rs : List (List (List Nat × List Nat))} (hRs : Rs.length ≤ 10) {k : Nat} {g : D} (hb : Bag k g) (hk : k < 2 ^ 38)
    {o : Bool} {v1 v2 v5 v6 v7 v9 v10 v11 v12 v13 v14 v15 v16 v17 v18 v19 v20 : Option D} (i13 : immO (some v13) = true) : ∃ (g' : D) (P : List (List Nat × List Nat)) (v7' v11' v12' v13' : Option D),
    stepS (gT 2 (gsC (gN 9) (gsC (gN 10) gsN))) l__law_drawn_table_6 (entD false e) [some g, v1, v2, some (ownD false szl), some (.lst o (rs.map kD)), v5, v6, v7, some (.lst true (Rs.map ruF)), v9, v10, v11, v12, v13, v14, v15, v16, v17, v18, v19, v20]
      = .nx [some g', v1, v2, some (ownD false szl), some (.lst false (rs.map kD)), v5, v6, v7', some (.lst true ((Rs ++ [P]).map ruF)), some (sgD e.1), some (ownD false e.2), v11', v12', v13', v14, v15, v16, v17, v18, v19, v20] ∧ Bag (k + 400) g' ∧ RuOk szl e.2 rs P ∧ immO (some v13') = true := by
  have h4 := H.h4
  have B81 : rs.length ≤ 81 := by
    have : 3 ^ h ≤ 3 ^ 4 := Nat.pow_le_pow_right (by omega) h4
    have := B.len
    omega
  have lx : ∀ x ∈ rs, x.length = h := fun x hx => ((B.mem x).mp hx).1
  obtain ⟨ρ', lp, g1, P, w7, w12, w13, rfl, hb1, hP, hPl, hold, i13'⟩ := loopM (step := stepS (gN 7) l__law_drawn_table_5) (f := kD) (xs := rs) (ρ := [some g, v1, v2, some (ownD false szl), some (.lst false (rs.map kD)), v5, v6, v7, some (.lst true (Rs.map ruF)), some (sgD e.1), some (ownD false e.2), some (ruO []), v12, v13, v14, v15, v16, v17, v18, v19, v20])
    (fun j ρ => ∃ (g1 : D) (P : List (List Nat × List Nat)) (w7 w12 w13 : Option D), ρ = [some g1, v1, v2, some (ownD false szl), some (.lst false (rs.map kD)), v5, v6, w7, some (.lst true (Rs.map ruF)), some (sgD e.1), some (ownD false e.2), some (ruO P), w12, w13, v14, v15, v16, v17, v18, v19, v20] ∧ Bag (k + 4 * j) g1 ∧ (∀ p ∈ P, Good szl e.2 p.2) ∧ P.length ≤ j ∧ (∀ i x, i < j → rs[i]? = some x → ∃ due, lkQ P (keyN e.2 x) = some due) ∧ immO (some w13) = true)
    ⟨g, [], v7, v12, v13, rfl, hb, by simp, by simp, fun i x hi => by omega, i13⟩ (by
      rintro j x ρ hj ⟨g1, P, w7, w12, w13, rfl, hb1, hP, hPl, hold, j13⟩
      have hjl := (List.getElem?_eq_some_iff.mp hj).1
      obtain ⟨g2, P', due, u13, st, hb2, hP', hPl', mono, hd, k13⟩ := dt5 H Z he hP (by omega) (lx x (List.mem_of_getElem? hj)) hb1 (by omega) (v1 := v1) (v2 := v2) (v4 := some (.lst false (rs.map kD))) (v5 := v5) (v6 := v6) (v7 := w7) (v8 := some (.lst true (Rs.map ruF))) (v9 := some (sgD e.1)) (v12 := w12) (v13 := w13) (v14 := v14) (v15 := v15) (v16 := v16) (v17 := v17) (v18 := v18) (v19 := v19) (v20 := v20) j13
      refine ⟨_, st, g2, P', _, _, u13, rfl, hb2.mono (by omega), hP', by omega, fun i y hi hy => ?_, k13⟩
      by_cases c : i = j
      · subst c; rw [hj] at hy; cases hy; exact ⟨due, hd⟩
      · obtain ⟨d2, h2⟩ := hold i y (by omega) hy
        exact ⟨d2, mono _ _ h2⟩)
  refine ⟨g1, P, w7, some (ruF P), w12, w13, ?_, hb1.mono (by omega), fun x hx => ?_, i13'⟩
  · have gt' : gT 2 (gsC (gN 9) (gsC (gN 10) gsN)) (entD false e) [some g, v1, v2, some (ownD false szl), some (.lst o (rs.map kD)), v5, v6, v7, some (.lst true (Rs.map ruF)), v9, v10, v11, v12, v13, v14, v15, v16, v17, v18, v19, v20] = some [some g, v1, v2, some (ownD false szl), some (.lst o (rs.map kD)), v5, v6, v7, some (.lst true (Rs.map ruF)), some (sgD e.1), some (ownD false e.2), v11, v12, v13, v14, v15, v16, v17, v18, v19, v20] := by unfold entD; simp; rfl
    have fR : frz (.lst o (rs.map kD)) = .lst false (rs.map kD) := by rw [frz_lst, frzs_kD]
    have it : itemsL (.lst false (rs.map kD)) = some (rs.map kD) := by rw [items_l, frzs_kD]
    have e0 : D.dcT true [] [] = ruO [] := rfl
    have fP := frz_ru (P := P)
    have ls : (Rs.map ruF).length < sizeLine := by rw [List.length_map]; unfold sizeLine; omega
    have em : (Rs ++ [P]).map ruF = Rs.map ruF ++ [ruF P] := by rw [List.map_append]; rfl
    rw [ap_step, gt', tgR_s, em]; unfold l__law_drawn_table_6
    generalize D.lst o (rs.map kD) = RS at *
    generalize D.lst false (rs.map kD) = RF at *
    generalize rs.map kD = RX at *
    generalize Rs.map ruF = RR at *
    generalize ruF P = PF at *
    generalize ruO P = PO at *
    generalize ownD false e.2 = OE at *
    generalize ownD false szl = SZ at *
    simp [e0, fR, it, lp, fP, ls]
  · obtain ⟨i, hi⟩ := List.getElem?_of_mem hx
    obtain ⟨due, hd⟩ := hold i x (List.getElem?_eq_some_iff.mp hi).1 hi
    obtain ⟨p, hp, _, e2⟩ := lkQ_mem hd
    exact ⟨due, hd, e2 ▸ hP p hp⟩
def beP (h : Nat) (own due x : List Nat) (t : Nat) : List Nat := (List.range h).map fun i => if own.idxOf i < t then due.getD (own.idxOf i) 0 else x.getD i 0
theorem beP_len {h t : Nat} {own due x : List Nat} : (beP h own due x t).length = h := by unfold beP; rw [List.length_map, List.length_range]
theorem beP_at {h t i : Nat} {own due x : List Nat} (hi : i < h) : (beP h own due x t).getD i 0 = if own.idxOf i < t then due.getD (own.idxOf i) 0 else x.getD i 0 := by
  unfold beP
  rw [List.getD_eq_getElem?_getD, List.getElem?_map, List.getElem?_range hi]; rfl
theorem beP_zero {h : Nat} {own due x : List Nat} (hx : x.length = h) : beP h own due x 0 = x := ext_getD beP_len hx fun i hi => by rw [beP_at hi, if_neg (by omega)]
theorem idx_at {own : List Nat} (nd : own.Nodup) {t : Nat} (ht : t < own.length) : own.idxOf (own.getD t 0) = t := by
  rw [List.getD_eq_getElem?_getD, List.getElem?_eq_getElem ht]
  exact nd.idxOf_getElem t ht
theorem beP_step {h t : Nat} {own due x : List Nat} (nd : own.Nodup) (lt : ∀ i ∈ own, i < h) (ht : t < own.length) : (beP h own due x t).set (own.getD t 0) (due.getD t 0) = beP h own due x (t + 1) := by
  refine ext_getD (by rw [List.length_set]; exact beP_len) beP_len fun i hi => ?_
  have hm : own.getD t 0 ∈ own := by rw [List.getD_eq_getElem?_getD, List.getElem?_eq_getElem ht]; exact List.getElem_mem ht
  have hl := lt _ hm
  rw [beP_at hi]
  by_cases c : i = own.getD t 0
  · rw [c, idx_at nd ht, if_pos (by omega), List.getD_eq_getElem?_getD, List.getElem?_set_self (by rw [beP_len]; exact hl)]; rfl
  · rw [List.getD_eq_getElem?_getD, List.getElem?_set_ne (fun z => c z.symm), ← List.getD_eq_getElem?_getD, beP_at hi]
    have : own.idxOf i ≠ t := fun z => by
      have hil : own.idxOf i < own.length := by omega
      have := List.getElem_idxOf hil
      apply c
      rw [List.getD_eq_getElem?_getD, ← z, List.getElem?_eq_getElem hil, this]; rfl
    by_cases c2 : own.idxOf i < t
    · rw [if_pos c2, if_pos (by omega)]
    · rw [if_neg c2, if_neg (by omega)]
theorem dt1 {h : Nat} {own due x : List Nat} (nd : own.Nodup) (lt : ∀ i ∈ own, i < h) {v0 v1 v2 v3 v4 v5 v6 v7 v8 v9 v10 v11 v12 v13 v14 v15 v16 v17 v19 v20 : Option D} (hx : x.length = h) (ld : due.length = own.length) (i13 : immO (some v13) = true) : ∃ v13' v20',
    loopS (stepS (gT 2 (gsC (gN 13) (gsC (gN 20) gsN))) l__law_drawn_table_1) ((List.range own.length).map fun t => D.tup [natD (own.getD t 0), natD (due.getD t 0)]) [v0, v1, v2, v3, v4, v5, v6, v7, v8, v9, v10, v11, v12, v13, v14, v15, v16, v17, some (ownD true x), v19, v20]
      = .nx [v0, v1, v2, v3, v4, v5, v6, v7, v8, v9, v10, v11, v12, v13', v14, v15, v16, v17, some (ownD true (beP h own due x own.length)), v19, v20'] ∧ immO (some v13') = true := by
  obtain ⟨ρ', lp, v13', v20', rfl, i13'⟩ := loopM (step := stepS (gT 2 (gsC (gN 13) (gsC (gN 20) gsN))) l__law_drawn_table_1) (f := fun t => D.tup [natD (own.getD t 0), natD (due.getD t 0)]) (xs := List.range own.length) (ρ := [v0, v1, v2, v3, v4, v5, v6, v7, v8, v9, v10, v11, v12, v13, v14, v15, v16, v17, some (ownD true x), v19, v20])
    (fun t ρ => ∃ v13 v20 : Option D, ρ = [v0, v1, v2, v3, v4, v5, v6, v7, v8, v9, v10, v11, v12, v13, v14, v15, v16, v17, some (ownD true (beP h own due x t)), v19, v20] ∧ immO (some v13) = true)
    ⟨v13, v20, by rw [beP_zero hx], i13⟩ (by
      rintro t s ρ hj ⟨w13, w20, rfl, _⟩
      have ht : t < own.length := by have := (List.getElem?_eq_some_iff.mp hj).1; simpa using this
      rw [List.getElem?_range ht] at hj; cases hj
      have hm : own.getD t 0 ∈ own := by rw [List.getD_eq_getElem?_getD, List.getElem?_eq_getElem ht]; exact List.getElem_mem ht
      have hl := lt _ hm
      have bs := beP_step (due := due) (x := x) nd lt ht
      refine ⟨[v0, v1, v2, v3, v4, v5, v6, v7, v8, v9, v10, v11, v12, some (natD (own.getD t 0)), v14, v15, v16, v17, some (ownD true (beP h own due x (t + 1))), v19, some (natD (due.getD t 0))], ?_, _, _, rfl, rfl⟩
      have st : setS (some (some (ownD true (beP h own due x t)))) 18 (natD (due.getD t 0)) (natD (own.getD t 0)) [v0, v1, v2, v3, v4, v5, v6, v7, v8, v9, v10, v11, v12, some (natD (own.getD t 0)), v14, v15, v16, v17, some (ownD true (beP h own due x t)), v19, some (natD (due.getD t 0))]
          = .nx [v0, v1, v2, v3, v4, v5, v6, v7, v8, v9, v10, v11, v12, some (natD (own.getD t 0)), v14, v15, v16, v17, some (ownD true (beP h own due x (t + 1))), v19, some (natD (due.getD t 0))] := by
        rw [← bs]
        unfold ownD
        have e6 : natD (own.getD t 0) = .int (own.getD t 0 : Int) := rfl
        rw [e6, setS_n (by rw [List.length_map, beP_len]; exact hl), List.map_set]; rfl
      have n1 : frz (natD (due.getD t 0)) = natD (due.getD t 0) := rfl
      have n2 : frz (natD (own.getD t 0)) = natD (own.getD t 0) := rfl
      rw [ap_step]; unfold l__law_drawn_table_1
      generalize ownD true (beP h own due x (t + 1)) = B2 at *
      generalize ownD true (beP h own due x t) = B1 at *
      generalize natD (due.getD t 0) = DD at *
      generalize natD (own.getD t 0) = OO at *
      simp [n1, n2, st])
  rw [List.length_range] at *
  exact ⟨v13', v20', lp, i13'⟩
/-- a letter's memories behind -/
def becD (h : Nat) (own : List Nat) (P : List (List Nat × List Nat)) (x : List Nat) : List Nat := beP h own ((lkQ P (keyN own x)).getD []) x own.length
theorem dt2 (H : House h L) {szl : List Nat} (Z : SzOk h szl) {rs : List (List Nat)} (B : Box3 h (fun i => szl.getD i 0) rs) {e : Nat × List Nat} (he : e ∈ L) {Rs : List (List (List Nat × List Nat))} {k : Nat} {P : List (List Nat × List Nat)} (hk : Rs[k]? = some P) (hR : RuOk szl e.2 rs P) {x : List Nat} (hx : x ∈ rs) {fs : List Nat} (hfs : fs.length ≤ 10)
    {o : Bool} {v0 v1 v2 v3 v5 v6 v9 v10 v11 v12 v13 v14 v15 v17 v18 v19 v20 : Option D} (i13 : immO (some v13) = true) (rnd : rs.Nodup) :
    becD h e.2 P x ∈ rs ∧ ∃ v13' v18' v19' v20' : Option D, stepS (gT 2 (gsC (gN 17) (gsC (gT 2 (gsC (gN 9) (gsC (gN 10) gsN))) gsN))) l__law_drawn_table_2 (.tup [.int (k : Int), entD false e]) [v0, v1, v2, v3, some (.lst o (rs.map kD)), v5, v6, some (kD x), some (.lst true (Rs.map ruF)), v9, v10, v11, v12, v13, v14, v15, some (ownD true fs), v17, v18, v19, v20]
      = .nx [v0, v1, v2, v3, some (.lst false (rs.map kD)), v5, v6, some (kD x), some (.lst true (Rs.map ruF)), some (sgD e.1), some (ownD false e.2), v11, v12, v13', v14, v15, some (ownD true (fs ++ [rs.idxOf (becD h e.2 P x)])), some (.int (k : Int)), v18', v19', v20'] ∧ immO (some v13') = true := by
  have h4 := H.h4
  have wo := H.own e he
  have few := rise_len e.2 0 h wo.rise fun x hx => ⟨by omega, wo.lt x hx⟩
  have lx : x.length = h := ((B.mem x).mp hx).1
  obtain ⟨due, hd, gd⟩ := hR x hx
  have nd : e.2.Nodup := List.nodup_iff_pairwise_ne.mpr (wo.rise.imp fun hab => Nat.ne_of_lt hab)
  have eB : becD h e.2 P x = beP h e.2 due x e.2.length := by unfold becD; rw [hd]; rfl
  rw [eB]
  have hm : beP h e.2 due x e.2.length ∈ rs := (B.mem _).mpr ⟨beP_len, fun i hi => by
    rw [beP_at hi]
    by_cases c : e.2.idxOf i < e.2.length
    · rw [if_pos c]
      have := gd.2 _ c
      have ei : e.2.getD (e.2.idxOf i) 0 = i := by
        rw [List.getD_eq_getElem?_getD, List.getElem?_eq_getElem c, List.getElem_idxOf c]; rfl
      rwa [ei] at this
    · rw [if_neg c]; exact ((B.mem x).mp hx).2 i hi⟩
  refine ⟨hm, ?_⟩
  have gr := ruF_ix hd
  have pk : gIx (.lst true (Rs.map ruF)) (.int (k : Int)) = some (ruF P) := by rw [ix_l, at_nat, List.getElem?_map, hk]; rfl
  obtain ⟨OW, hOW⟩ : ∃ OW, OW = e.2 := ⟨_, rfl⟩
  have lt : ∀ i ∈ e.2, i < h := wo.lt
  rw [← hOW] at few gd nd eB hm gr lt ⊢
  have oi := own_items (o := false) (xs := OW)
  have fo : frz (ownD false OW) = ownD false OW := frz_own
  have gl : gList [kD x] = some (ownD true x) := by
    show (if isImms (x.map natD) = true then some (D.lst true (x.map natD)) else none) = _
    rw [if_pos (imms_map fun _ _ => rfl)]; rfl
  have lc1 : ∀ v18 v19, fLc (fIt itemsL (fVar 10)) (gN 13) fYes (fI (vOp2 gIx (vVar 7) (vVar 13))) [13] [v0, v1, v2, v3, some (.lst o (rs.map kD)), v5, v6, some (kD x), some (.lst true (Rs.map ruF)), some (sgD e.1), some (ownD false OW), v11, v12, v13, v14, v15, some (ownD true fs), some (.int (k : Int)), v18, v19, v20]
      = .ok (.lst true (OW.map fun i => natD (x.getD i 0))) [v0, v1, v2, v3, some (.lst o (rs.map kD)), v5, v6, some (kD x), some (.lst true (Rs.map ruF)), some (sgD e.1), some (ownD false OW), v11, v12, v13, v14, v15, some (ownD true fs), some (.int (k : Int)), v18, v19, v20] := fun v18 v19 => by
    refine lc_all (g := natD) (by simp [fo, oi]) (by simp [i13]) (by unfold sizeLine; omega) fun i hi => ?_
    have ka := kD_at (x := x) (i := i) (by rw [lx]; exact lt i hi)
    generalize kD x = KX at *
    generalize ownD false OW = OE at *
    generalize ownD true fs = FS at *
    generalize D.lst o (rs.map kD) = RS at *
    generalize D.lst true (Rs.map ruF) = RR at *
    exact ⟨[v0, v1, v2, v3, some RS, v5, v6, some KX, some RR, some (sgD e.1), some OE, v11, v12, some (.int (i : Int)), v14, v15, some FS, some (.int (k : Int)), v18, v19, v20], by simp [natD], [v0, v1, v2, v3, some RS, v5, v6, some KX, some RR, some (sgD e.1), some OE, v11, v12, some (.int (i : Int)), v14, v15, some FS, some (.int (k : Int)), v18, v19, v20], by simp [ka, natD], by simp⟩
  have gk : gTuple [.lst true (OW.map fun i => natD (x.getD i 0))] = some (kD (keyN OW x)) := by
    show (if _ then _ else _) = _
    rw [if_pos (imms_map fun _ _ => rfl)]
    unfold kD keyN
    rw [List.map_map]; rfl
  have gI : gIxI (ruF P) (kD (keyN OW x)) = some (ownD false due) := ixI_of gr imm_own
  have iP := imm_ruF (P := P)
  have z1 : zipL [ownD false OW, ownD false due] = some ((List.range OW.length).map fun t => D.tup [natD (OW.getD t 0), natD (due.getD t 0)]) := by
    unfold zipL
    dsimp only
    rw [oi, Option.bind_some, own_items, Option.map_some, line_range rfl, line_range gd.1, zip_maps]
  have fd : frz (ownD false due) = ownD false due := frz_own
  have fX := frz_kD (x := x)
  obtain ⟨w13, w20, lp, j13⟩ := dt1 nd lt (x := x) lx gd.1 i13 (v0 := v0) (v1 := v1) (v2 := v2) (v3 := v3) (v4 := some (.lst o (rs.map kD))) (v5 := v5) (v6 := v6) (v7 := some (kD x)) (v8 := some (.lst true (Rs.map ruF))) (v9 := some (sgD e.1)) (v10 := some (ownD false OW)) (v11 := v11) (v12 := v12) (v14 := v14) (v15 := v15) (v16 := some (ownD true fs)) (v17 := some (.int (k : Int))) (v19 := some (ownD false due)) (v20 := v20)
  have gt : gTuple [ownD true (beP h OW due x OW.length)] = some (kD (beP h OW due x OW.length)) := by
    show (if isImms ((beP h OW due x OW.length).map natD) = true then _ else _) = _
    rw [if_pos (imms_map fun _ _ => rfl)]; rfl
  have ix : gIndex (.lst false (rs.map kD)) [kD (beP h OW due x OW.length)] = some (.int (rs.idxOf (beP h OW due x OW.length) : Int)) := by
    have il := List.idxOf_lt_length_of_mem hm
    exact idx_map eqd_kD (fun _ _ => sh_kD) (by rw [List.getElem?_eq_getElem il, List.getElem_idxOf il]) rnd
  have isl : isL (.lst false (rs.map kD)) = true := rfl
  have fR : frz (.lst o (rs.map kD)) = .lst false (rs.map kD) := by rw [frz_lst, frzs_kD]
  have iKB := imm_kD (x := beP h OW due x OW.length)
  have eo : ∀ (xs : List Nat) (q : Nat), ownD true (xs ++ [q]) = .lst true (xs.map natD ++ [.int (q : Int)]) := fun xs q => by unfold ownD; rw [List.map_append]; rfl
  have ap : ∀ ρ : Ev, appS (some (some (ownD true fs))) 16 (.int (rs.idxOf (beP h OW due x OW.length) : Int)) ρ = .nx (ρ.set 16 (some (ownD true (fs ++ [rs.idxOf (beP h OW due x OW.length)])))) := fun ρ => by
    rw [eo]
    unfold ownD
    rw [appS_s, if_pos (by rw [List.length_map]; unfold sizeLine; omega)]
  have isLs' : ∀ kk : RS, isLs (some (some (ownD true fs))) kk = kk := fun _ => rfl
  have gt' : gT 2 (gsC (gN 17) (gsC (gT 2 (gsC (gN 9) (gsC (gN 10) gsN))) gsN)) (.tup [.int (k : Int), entD false e]) [v0, v1, v2, v3, some (.lst o (rs.map kD)), v5, v6, some (kD x), some (.lst true (Rs.map ruF)), v9, v10, v11, v12, v13, v14, v15, some (ownD true fs), v17, v18, v19, v20]
      = some [v0, v1, v2, v3, some (.lst o (rs.map kD)), v5, v6, some (kD x), some (.lst true (Rs.map ruF)), some (sgD e.1), some (ownD false OW), v11, v12, v13, v14, v15, some (ownD true fs), some (.int (k : Int)), v18, v19, v20] := by
    have e2 : entD false e = .tup [sgD e.1, ownD false OW] := by rw [hOW]; rfl
    rw [e2]; simp
  refine ⟨w13, some (ownD true (beP h OW due x OW.length)), some (ownD false due), w20, ?_, j13⟩
  rw [ap_step, gt', tgR_s]; unfold l__law_drawn_table_2
  generalize (OW.map fun i => natD (x.getD i 0)) = KM at *
  generalize (List.range OW.length).map (fun t => D.tup [natD (OW.getD t 0), natD (due.getD t 0)]) = ZZ at *
  generalize rs.idxOf (beP h OW due x OW.length) = q at *
  generalize ownD true (fs ++ [q]) = F2 at *
  generalize kD (beP h OW due x OW.length) = KB at *
  generalize ownD true (beP h OW due x OW.length) = OB at *
  generalize kD (keyN OW x) = KK at *
  generalize kD x = KX at *
  generalize ownD true x = OX at *
  generalize ownD false OW = OE at *
  generalize ownD false due = DU at *
  generalize ownD true fs = FS at *
  generalize ruF P = RP at *
  generalize D.lst true (Rs.map ruF) = RR at *
  generalize D.lst o (rs.map kD) = RS at *
  generalize D.lst false (rs.map kD) = RF at *
  simp [-ix_l, -ix_t, gl, fX, pk, iP, lc1, gk, gI, fo, fd, z1, lp, fR, isl, gt, ix, ap, isLs']
theorem enum_map {α : Type} {f : α → D} (d0 : α) : ∀ (xs : List α) (i : Nat), enumD i (xs.map f) = (List.range xs.length).map fun k => .tup [.int ((i + k : Nat) : Int), f (xs.getD k d0)]
  | [], _ => rfl
  | x :: xs, i => by
    rw [List.map_cons, enumD, enum_map d0 xs (i + 1), List.length_cons, List.range_succ_eq_map, List.map_cons, List.map_map]
    congr 1
    refine List.map_congr_left fun k _ => ?_
    show D.tup [.int ((i + 1 + k : Nat) : Int), _] = .tup [.int ((i + (k + 1) : Nat) : Int), _]
    rw [Nat.add_assoc, Nat.add_comm 1 k]; rfl
theorem sl_to {o : Bool} {xs : List D} (i : isImms xs = true) {p : Nat} : gSl (.lst o xs) none (some (p : Int)) = some (.lst true (xs.take p)) := by
  unfold gSl
  dsimp only
  rw [if_pos i]
  unfold Hap.cutD
  rw [HT.sIx_none, HT.sIx_nat, List.drop_zero, Nat.sub_zero]
  congr 2
  rcases Nat.le_total p xs.length with h | h
  · rw [Nat.min_eq_left h]
  · rw [Nat.min_eq_right h, List.take_length, List.take_of_length_le h]
theorem sl_from {o : Bool} {xs : List D} (i : isImms xs = true) {p : Nat} (hp : p ≤ xs.length) : gSl (.lst o xs) (some (p : Int)) none = some (.lst true (xs.drop p)) := by
  unfold gSl
  dsimp only
  rw [if_pos i]
  unfold Hap.cutD
  rw [HT.sIx_none, HT.sIx_nat, Nat.min_eq_left hp, List.take_of_length_le (by rw [List.length_drop]; omega)]
abbrev Ent := List Nat × Bool × List Nat
def entT (e : Ent) : D := .tup [kD e.1, .bl e.2.1, kD e.2.2]
@[simp] theorem frz_entT {e : Ent} : frz (entT e) = entT e := by unfold entT; simp
theorem imm_entT {e : Ent} : isImm (entT e) = true := by unfold entT; simp
def folL (h : Nat) (L : List (Nat × List Nat)) (rs : List (List Nat)) (Rs : List (List (List Nat × List Nat))) (x : List Nat) (m : Nat) : List Nat := (List.range m).map fun k => rs.idxOf (becD h (L.getD k (0, [])).2 (Rs.getD k []) x)
theorem dt3 (H : House h L) {szl : List Nat} (Z : SzOk h szl) {rs : List (List Nat)} (B : Box3 h (fun i => szl.getD i 0) rs) {Rs : List (List (List Nat × List Nat))} (hRl : Rs.length = L.length) (hR : ∀ (k : Nat) (e : Nat × List Nat) (P : List (List Nat × List Nat)), L[k]? = some e → Rs[k]? = some P → RuOk szl e.2 rs P) {x : List Nat} (hx : x ∈ rs) {T : List Ent} (hT : T.length ≤ 100) {k0 : Nat} {g : D} (hb : Bag k0 g) (hk0 : k0 < 2 ^ 40)
    {o : Bool} {v2 v3 v5 v6 v7 v9 v10 v11 v12 v13 v14 v16 v17 v18 v19 v20 : Option D} (i13 : immO (some v13) = true) : ∃ (g' : D) (b : Bool) (v9' v10' v13' v16' v17' v18' v19' v20' : Option D),
    stepS (gN 7) l__law_drawn_table_3 (kD x) [some g, some (houD false h L), v2, v3, some (.lst o (rs.map kD)), v5, v6, v7, some (.lst true (Rs.map ruF)), v9, v10, v11, v12, v13, v14, some (.lst true (T.map entT)), v16, v17, v18, v19, v20]
      = .nx [some g', some (houD false h L), v2, v3, some (.lst false (rs.map kD)), v5, v6, some (kD x), some (.lst true (Rs.map ruF)), v9', v10', v11, v12, v13', v14, some (.lst true ((T ++ [(x, b, folL h L rs Rs x L.length)]).map entT)), v16', v17', v18', v19', v20'] ∧ Bag (k0 + 1) g' ∧ immO (some v13') = true := by
  have l6 := H.l6
  have l1 := H.l1
  obtain ⟨ρ', lp, o', w9, w10, w13, w17, w18, w19, w20, rfl, j13, ho'⟩ := loopM (step := stepS (gT 2 (gsC (gN 17) (gsC (gT 2 (gsC (gN 9) (gsC (gN 10) gsN))) gsN))) l__law_drawn_table_2) (f := fun k : Nat => D.tup [.int (k : Int), entD false (L.getD k (0, []))]) (xs := List.range L.length) (ρ := [some g, some (houD false h L), v2, v3, some (.lst o (rs.map kD)), v5, v6, some (kD x), some (.lst true (Rs.map ruF)), v9, v10, v11, v12, v13, v14, some (.lst true (T.map entT)), some (ownD true (folL h L rs Rs x 0)), v17, v18, v19, v20])
    (fun j ρ => ∃ (o' : Bool) (w9 w10 w13 w17 w18 w19 w20 : Option D), ρ = [some g, some (houD false h L), v2, v3, some (.lst o' (rs.map kD)), v5, v6, some (kD x), some (.lst true (Rs.map ruF)), w9, w10, v11, v12, w13, v14, some (.lst true (T.map entT)), some (ownD true (folL h L rs Rs x j)), w17, w18, w19, w20] ∧ immO (some w13) = true ∧ (0 < j → o' = false))
    ⟨o, v9, v10, v13, v17, v18, v19, v20, rfl, i13, fun z => by omega⟩ (by
      rintro j k ρ hj ⟨o', w9, w10, w13, w17, w18, w19, w20, rfl, j13, _⟩
      have hjl : j < L.length := by have := (List.getElem?_eq_some_iff.mp hj).1; simpa using this
      rw [List.getElem?_range hjl] at hj; cases hj
      have ej : L.getD j (0, []) = L[j] := by rw [List.getD_eq_getElem?_getD, List.getElem?_eq_getElem hjl]; rfl
      have hRj : Rs[j]? = some (Rs.getD j []) := by rw [List.getD_eq_getElem?_getD, List.getElem?_eq_getElem (by omega)]; rfl
      obtain ⟨_, u13, u18, u19, u20, st, k13⟩ := dt2 H Z B (List.getElem_mem hjl) hRj (hR j _ _ (List.getElem?_eq_getElem hjl) hRj) hx (fs := folL h L rs Rs x j) (by unfold folL; rw [List.length_map, List.length_range]; omega) (o := o') (v0 := some g) (v1 := some (houD false h L)) (v2 := v2) (v3 := v3) (v5 := v5) (v6 := v6) (v9 := w9) (v10 := w10) (v11 := v11) (v12 := v12) (v14 := v14) (v15 := some (.lst true (T.map entT))) (v17 := w17) (v18 := w18) (v19 := w19) (v20 := w20) j13 B.nodup
      have ef : folL h L rs Rs x (j + 1) = folL h L rs Rs x j ++ [rs.idxOf (becD h L[j].2 (Rs.getD j []) x)] := by
        unfold folL
        rw [List.range_succ, List.map_append, List.map_cons, List.map_nil, ej]
      rw [ej, ef]
      exact ⟨_, st, false, _, _, u13, _, u18, u19, u20, rfl, k13, fun _ => rfl⟩)
  rw [List.length_range] at *
  have ho := ho' (by omega)
  subst ho
  obtain ⟨r, g1, hr, hb1, t1⟩ := take_spec (m := 2) hb (by omega) (by omega) (by omega)
  have en : enumL [.lst false (L.map (entD false))] = some ((List.range L.length).map fun k : Nat => D.tup [.int (k : Int), entD false (L.getD k (0, []))]) := by
    have : enumL [.lst false (L.map (entD false))] = some (enumD 0 (L.map (entD false))) := by
      unfold enumL
      dsimp only
      rw [items_l, frzs_mapf (f := entD false) (g := entD false) fun _ _ => by unfold entD; simp [frz_own], Option.map_some]
    rw [this, enum_map (f := entD false) (0, [])]
    congr 1
    refine List.map_congr_left fun k _ => ?_
    rw [Nat.zero_add]
  have ie : isImm (.lst false (L.map (entD false))) = true := by rw [imm_lstI]; exact imms_map fun _ _ => imm_ent
  have hix : gIx (houD false h L) (.int 1) = some (.lst false (L.map (entD false))) := hou_ix1
  have h0 : 0 ≤ sizeLine := by decide
  have h3 : 3 ≤ sizeLine := by decide
  have gt : gTuple [ownD true (folL h L rs Rs x L.length)] = some (kD (folL h L rs Rs x L.length)) := by
    show (if isImms ((folL h L rs Rs x L.length).map natD) = true then _ else _) = _
    rw [if_pos (imms_map fun _ _ => rfl)]; rfl
  have iX := imm_kD (x := x)
  have fX := frz_kD (x := x)
  have lT : (T.map entT).length < sizeLine := by rw [List.length_map]; unfold sizeLine; omega
  have e0 : D.lst true [] = ownD true (folL h L rs Rs x 0) := rfl
  refine ⟨g1, decide ((r : Int) = 1), w9, w10, w13, some (ownD true (folL h L rs Rs x L.length)), w17, w18, w19, w20, ?_, hb1, j13⟩
  have em : (T ++ [(x, decide ((r : Int) = 1), folL h L rs Rs x L.length)]).map entT = T.map entT ++ [.tup [kD x, .bl (decide ((r : Int) = 1)), kD (folL h L rs Rs x L.length)]] := by rw [List.map_append]; rfl
  rw [ap_step, em]; unfold l__law_drawn_table_3
  generalize (fun k : Nat => D.tup [.int (k : Int), entD false (L.getD k (0, []))]) = EE at *
  generalize kD (folL h L rs Rs x L.length) = KF at *
  generalize ownD true (folL h L rs Rs x L.length) = OF at *
  generalize ownD true (folL h L rs Rs x 0) = O0 at *
  generalize kD x = KX at *
  generalize T.map entT = TT' at *
  generalize D.lst true (Rs.map ruF) = RR at *
  generalize D.lst o (rs.map kD) = RS at *
  generalize D.lst false (rs.map kD) = RF at *
  generalize D.lst false (L.map (entD false)) = LE at *
  generalize houD false h L = HH at *
  simp [-ix_t, h0, h3, e0, hix, ie, en, lp, t1, gt, fX, lT]
/-- what a table is -/
def bhT (T : List Ent) (e : Ent) (k : Nat) : List Nat := (T.getD (e.2.2.getD k 0) ([], false, [])).1
structure Tab (h : Nat) (L : List (Nat × List Nat)) (T : List Ent) : Prop where
  n1 : 1 ≤ T.length
  n600 : T.length ≤ 600
  ml : ∀ e ∈ T, e.1.length = h
  fl : ∀ e ∈ T, e.2.2.length = L.length
  flt : ∀ e ∈ T, ∀ x ∈ e.2.2, x < T.length
  nd : (T.map (·.1)).Nodup
  stay : ∀ e ∈ T, ∀ k, k < L.length → ∀ i, i < h → i ∉ (L.getD k (0, [])).2 → (bhT T e k).getD i 0 = e.1.getD i 0
  same : ∀ e ∈ T, ∀ e' ∈ T, ∀ k, k < L.length → keyN (L.getD k (0, [])).2 e.1 = keyN (L.getD k (0, [])).2 e'.1 → keyN (L.getD k (0, [])).2 (bhT T e k) = keyN (L.getD k (0, [])).2 (bhT T e' k)
theorem drawn_tab (H : House h L) {szl : List Nat} {rs : List (List Nat)} (B : Box3 h (fun i => szl.getD i 0) rs) {Rs : List (List (List Nat × List Nat))} (hR : ∀ (k : Nat) (e : Nat × List Nat) (P : List (List Nat × List Nat)), L[k]? = some e → Rs[k]? = some P → RuOk szl e.2 rs P) (hRl : Rs.length = L.length)
    {T : List Ent} (h1 : T.map (·.1) = rs) (h2 : ∀ e ∈ T, e.2.2 = folL h L rs Rs e.1 L.length) : Tab h L T ∧ T.length ≤ 81 := by
  have h4 := H.h4
  have tl : T.length = rs.length := by rw [← h1, List.length_map]
  have B81 : rs.length ≤ 81 := by
    have : 3 ^ h ≤ 3 ^ 4 := Nat.pow_le_pow_right (by omega) h4
    have := B.len
    omega
  have mem1 : ∀ e ∈ T, e.1 ∈ rs := fun e he => by rw [← h1]; exact List.mem_map.mpr ⟨e, he, rfl⟩
  have bec : ∀ x ∈ rs, ∀ k, k < L.length → becD h (L.getD k (0, [])).2 (Rs.getD k []) x ∈ rs := fun x hx k hk => by
    have ek : L[k]? = some (L.getD k (0, [])) := by rw [List.getD_eq_getElem?_getD, List.getElem?_eq_getElem hk]; rfl
    have eR : Rs[k]? = some (Rs.getD k []) := by rw [List.getD_eq_getElem?_getD, List.getElem?_eq_getElem (by omega)]; rfl
    obtain ⟨due, hd, gd⟩ := hR k _ _ ek eR x hx
    unfold becD
    rw [hd]
    show beP h _ due x _ ∈ rs
    refine (B.mem _).mpr ⟨beP_len, fun i hi => ?_⟩
    rw [beP_at hi]
    generalize (L.getD k (0, [])).2 = ow at *
    by_cases c : ow.idxOf i < ow.length
    · rw [if_pos c]
      have := gd.2 _ c
      have ei : ow.getD (ow.idxOf i) 0 = i := by
        rw [List.getD_eq_getElem?_getD, List.getElem?_eq_getElem c, List.getElem_idxOf c]; rfl
      rwa [ei] at this
    · rw [if_neg c]; exact ((B.mem x).mp hx).2 i hi
  have fk : ∀ e ∈ T, ∀ k, k < L.length → e.2.2.getD k 0 = rs.idxOf (becD h (L.getD k (0, [])).2 (Rs.getD k []) e.1) := fun e he k hk => by
    rw [h2 e he]
    unfold folL
    rw [List.getD_eq_getElem?_getD, List.getElem?_map, List.getElem?_range hk]; rfl
  have bh : ∀ e ∈ T, ∀ k, k < L.length → bhT T e k = becD h (L.getD k (0, [])).2 (Rs.getD k []) e.1 := fun e he k hk => by
    have hm := bec _ (mem1 e he) k hk
    unfold bhT
    rw [fk e he k hk]
    have il := List.idxOf_lt_length_of_mem hm
    generalize becD h (L.getD k (0, [])).2 (Rs.getD k []) e.1 = z at *
    have e1 : (T.map (·.1))[rs.idxOf z]? = some z := by rw [h1, List.getElem?_eq_getElem il, List.getElem_idxOf il]
    rw [List.getElem?_map] at e1
    rw [List.getD_eq_getElem?_getD]
    cases e2 : T[rs.idxOf z]? with
    | none => rw [e2] at e1; cases e1
    | some w => rw [e2] at e1; exact Option.some.inj e1
  refine ⟨⟨by have := B.ne; omega, by omega, fun e he => ((B.mem _).mp (mem1 e he)).1, fun e he => by rw [h2 e he]; unfold folL; rw [List.length_map, List.length_range], fun e he x hx => ?_, by rw [h1]; exact B.nodup, fun e he k hk i hi hn => ?_, fun e he e' he' k hk hkey => ?_⟩, by omega⟩
  · rw [h2 e he] at hx
    unfold folL at hx
    obtain ⟨k, hk, rfl⟩ := List.mem_map.mp hx
    rw [tl]
    exact List.idxOf_lt_length_of_mem (bec _ (mem1 e he) k (List.mem_range.mp hk))
  · rw [bh e he k hk]
    unfold becD
    rw [beP_at hi, if_neg fun z => hn (List.idxOf_lt_length_iff.mp z)]
  · rw [bh e he k hk, bh e' he' k hk]
    have wo : ∀ i ∈ (L.getD k (0, [])).2, i < h := by
      have ek : L.getD k (0, []) = L[k] := by rw [List.getD_eq_getElem?_getD, List.getElem?_eq_getElem hk]; rfl
      rw [ek]; exact (H.own _ (List.getElem_mem hk)).lt
    generalize (L.getD k (0, [])).2 = ow at *
    unfold keyN
    refine List.map_congr_left fun i hi => ?_
    unfold becD
    rw [beP_at (wo i hi), beP_at (wo i hi), if_pos (List.idxOf_lt_length_iff.mpr hi), if_pos (List.idxOf_lt_length_iff.mpr hi), hkey]
theorem rot_box {h : Nat} {sz : Nat → Nat} {rs : List (List Nat)} (B : Box3 h sz rs) (p : Nat) : Box3 h sz (rs.drop p ++ rs.take p) := by
  have pm : (rs.drop p ++ rs.take p).Perm rs := by
    have := List.perm_append_comm (l₁ := rs.drop p) (l₂ := rs.take p)
    rwa [List.take_append_drop] at this
  exact ⟨fun x => by rw [pm.mem_iff]; exact B.mem x, pm.nodup_iff.mpr B.nodup, by rw [pm.length_eq]; exact B.len, by rw [pm.length_eq]; exact B.ne⟩
theorem RuOk.perm {szl own : List Nat} {rs rs' : List (List Nat)} {P : List (List Nat × List Nat)} (R : RuOk szl own rs P) (h : ∀ x, x ∈ rs' → x ∈ rs) : RuOk szl own rs' P := fun x hx => R x (h x hx)
theorem drawn_spec (H : House h L) {n : Nat} {g : D} (hb : Bag n g) (hn : n < 2 ^ 30) : ∃ (g' : D) (T : List Ent), m__law_drawn_table [g, houD false h L] = .rt (.lst true (T.map entT)) [some g', none] ∧ Bag (n + 2 ^ 13) g' ∧ Tab h L T ∧ T.length ≤ 81 := by
  have h4 := H.h4
  have h2 := H.h2
  have l6 := H.l6
  have h0 : gIx (houD false h L) (.int 0) = some (.int (h : Int)) := by unfold houD; simp
  have hix : gIx (houD false h L) (.int 1) = some (.lst false (L.map (entD false))) := hou_ix1
  have ie : isImm (.lst false (L.map (entD false))) = true := by rw [imm_lstI]; exact imms_map fun _ _ => imm_ent
  have ite : itemsL (.lst false (L.map (entD false))) = some (L.map (entD false)) := by rw [items_l, frzs_mapf (f := entD false) (g := entD false) fun _ _ => by unfold entD; simp [frz_own]]
  have r1 := rng1_n (n := h) (by omega)
  have s0 : 0 ≤ sizeLine := by decide
  have s1' : 1 ≤ sizeLine := by decide
  -- sizes
  obtain ⟨acc, W, e1, g1, szl, rfl, rfl, sl, slo, shi, hb1⟩ := lc_run (i := fItN rng1 (fCons (fVar 2) fNil)) (t := gN 13) (f := fOp2 gAdd (fK (.int 1)) (fCallIO 0 2 m__law_take (fCons (fK (.int 3)) fNil))) (vs := [13]) (g := fun i => .int (i : Int)) (n := h)
    (ρ := [some g, some (houD false h L), some (.int (h : Int)), none, none, none, none, none, none, none, none, none, none, none, none, none, none, none, none, none, none])
    (ρ1 := [some g, some (houD false h L), some (.int (h : Int)), none, none, none, none, none, none, none, none, none, none, none, none, none, none, none, none, none, none])
    (fun k acc W => ∃ (g1 : D) (szl : List Nat), W = [some g1, some (houD false h L), some (.int (h : Int)), none, none, none, none, none, none, none, none, none, none, none, none, none, none, none, none, none, none] ∧ acc = szl.map natD ∧ szl.length = k ∧ (∀ i, i < k → 1 ≤ szl.getD i 0) ∧ (∀ i, i < k → szl.getD i 0 ≤ 3) ∧ Bag (n + k) g1)
    (by simp [r1]) (by simp) (by unfold sizeLine; omega) ⟨g, [], by simp, rfl, rfl, fun i hi => by omega, fun i hi => by omega, hb⟩ (by
      rintro k acc W hk ⟨g1, szl, rfl, rfl, sl, slo, shi, hb1⟩
      obtain ⟨r, g2, hr, hb2, t1⟩ := take_spec (m := 3) hb1 (by omega) (by omega) (by omega)
      have e5 : (1 : Int) + (r : Int) = ((1 + r : Nat) : Int) := by omega
      refine ⟨[some g1, some (houD false h L), some (.int (h : Int)), none, none, none, none, none, none, none, none, none, none, some (.int (k : Int)), none, none, none, none, none, none, none], by simp, natD (1 + r), [some g2, some (houD false h L), some (.int (h : Int)), none, none, none, none, none, none, none, none, none, none, some (.int (k : Int)), none, none, none, none, none, none, none], ?_, g2, szl ++ [1 + r], by simp, by simp, by simp [sl], fun i hi => ?_, fun i hi => ?_, hb2⟩
      · generalize houD false h L = HH
        simp [t1, natD_eq, e5, -Int.natCast_add]
      · rw [snoc_getD sl]
        by_cases c : i = k
        · rw [if_pos c]; omega
        · rw [if_neg c]; exact slo i (by omega)
      · rw [snoc_getD sl]
        by_cases c : i = k
        · rw [if_pos c]; omega
        · rw [if_neg c]; exact shi i (by omega))
  have Z : SzOk h szl := ⟨sl, slo, shi⟩
  -- all memories
  obtain ⟨ρ2, lp2, o2, rs, w5, w6, w7, rfl, B⟩ := loopM (step := stepS (gN 5) l__law_drawn_table_8) (f := natD) (xs := szl) (ρ := [some g1, some (houD false h L), some (.int (h : Int)), some (ownD false szl), some (.lst true ([[]].map kD)), none, none, none, none, none, none, none, none, none, none, none, none, none, none, none, none])
    (fun n' ρ => ∃ (o : Bool) (rs : List (List Nat)) (w5 w6 w7 : Option D), ρ = [some g1, some (houD false h L), some (.int (h : Int)), some (ownD false szl), some (.lst o (rs.map kD)), w5, w6, w7, none, none, none, none, none, none, none, none, none, none, none, none, none] ∧ Box3 n' (fun i => szl.getD i 0) rs)
    ⟨true, _, none, none, none, rfl, Box3.zero⟩ (by
      rintro j s ρ hj ⟨o, rs, w5, w6, w7, rfl, B⟩
      have hjl := (List.getElem?_eq_some_iff.mp hj).1
      have es : szl.getD j 0 = s := by rw [List.getD_eq_getElem?_getD, hj]; rfl
      have l1 := slo j (by omega)
      have l3 := shi j (by omega)
      rw [es] at l1 l3
      have l27 : rs.length ≤ 27 := by
        have : 3 ^ j ≤ 3 ^ 3 := Nat.pow_le_pow_right (by omega) (by omega)
        have := B.len
        omega
      obtain ⟨u6, u7, st⟩ := dt8 l3 (fun x hx => by have := ((B.mem x).mp hx).1; omega) l27 (o := o) (v0 := some g1) (v1 := some (houD false h L)) (v2 := some (.int (h : Int))) (v3 := some (ownD false szl)) (v5 := w5) (v6 := w6) (v7 := w7) (v8 := none) (v9 := none) (v10 := none) (v11 := none) (v12 := none) (v13 := none) (v14 := none) (v15 := none) (v16 := none) (v17 := none) (v18 := none) (v19 := none)
      exact ⟨_, st, false, _, _, u6, u7, rfl, B.step l1 l3 es⟩)
  rw [sl] at B
  have B81 : rs.length ≤ 81 := by
    have : 3 ^ h ≤ 3 ^ 4 := Nat.pow_le_pow_right (by omega) h4
    have := B.len
    omega
  have B1 := B.ne
  -- rules
  obtain ⟨ρ3, lp3, g3, o3, Rs, x7, x9, x10, x11, x12, x13, rfl, hb3, hRl, hR, i13⟩ := loopM (step := stepS (gT 2 (gsC (gN 9) (gsC (gN 10) gsN))) l__law_drawn_table_6) (f := entD false) (xs := L) (ρ := [some g1, some (houD false h L), some (.int (h : Int)), some (ownD false szl), some (.lst o2 (rs.map kD)), w5, w6, w7, some (.lst true (([] : List (List (List Nat × List Nat))).map ruF)), none, none, none, none, none, none, none, none, none, none, none, none])
    (fun a ρ => ∃ (g3 : D) (o3 : Bool) (Rs : List (List (List Nat × List Nat))) (x7 x9 x10 x11 x12 x13 : Option D), ρ = [some g3, some (houD false h L), some (.int (h : Int)), some (ownD false szl), some (.lst o3 (rs.map kD)), w5, w6, x7, some (.lst true (Rs.map ruF)), x9, x10, x11, x12, x13, none, none, none, none, none, none, none] ∧ Bag (n + h + 400 * a) g3 ∧ Rs.length = a ∧ (∀ (k : Nat) (e : Nat × List Nat) (P : List (List Nat × List Nat)), L[k]? = some e → Rs[k]? = some P → RuOk szl e.2 rs P) ∧ immO (some x13) = true)
    ⟨g1, o2, [], w7, none, none, none, none, none, rfl, hb1, rfl, fun k e P _ h => by simp at h, rfl⟩ (by
      rintro a e ρ he ⟨g3, o3, Rs, x7, x9, x10, x11, x12, x13, rfl, hb3, hRl, hR, i13⟩
      have ha := (List.getElem?_eq_some_iff.mp he).1
      obtain ⟨g4, P, y7, y11, y12, y13, st, hb4, rok, j13⟩ := dt6 H Z B (List.mem_of_getElem? he) (Rs := Rs) (by omega) hb3 (by omega) (o := o3) (v1 := some (houD false h L)) (v2 := some (.int (h : Int))) (v5 := w5) (v6 := w6) (v7 := x7) (v9 := x9) (v10 := x10) (v11 := x11) (v12 := x12) (v13 := x13) (v14 := none) (v15 := none) (v16 := none) (v17 := none) (v18 := none) (v19 := none) (v20 := none) i13
      refine ⟨_, st, g4, false, _, y7, _, _, y11, y12, y13, rfl, hb4.mono (by omega), by simp [hRl], fun k f Q hf hQ => ?_, j13⟩
      by_cases c : k = a
      · subst c
        rw [he] at hf; cases hf
        rw [List.getElem?_append_right (by omega), hRl, Nat.sub_self] at hQ
        cases hQ; exact rok
      · have hk : k < Rs.length := by
          have := (List.getElem?_eq_some_iff.mp hQ).1
          rw [List.length_append, List.length_singleton] at this
          omega
        rw [List.getElem?_append_left hk] at hQ
        exact hR k f Q hf hQ)
  -- turned
  obtain ⟨p, g4, hp, hb4, t4⟩ := take_spec (m := (rs.length : Int)) hb3 (by omega) (by omega) (by omega)
  have hp' : p ≤ rs.length := by omega
  have B' := rot_box B p
  obtain ⟨rs', hrs'⟩ : ∃ rs', rs' = rs.drop p ++ rs.take p := ⟨_, rfl⟩
  have pm : ∀ x, x ∈ rs' → x ∈ rs := fun x hx => by
    rw [hrs'] at hx
    rcases List.mem_append.mp hx with z | z
    · exact List.mem_of_mem_drop z
    · exact List.mem_of_mem_take z
  rw [← hrs'] at B'
  have hR' : ∀ (k : Nat) (e : Nat × List Nat) (P : List (List Nat × List Nat)), L[k]? = some e → Rs[k]? = some P → RuOk szl e.2 rs' P := fun k e P h1 h2 => (hR k e P h1 h2).perm pm
  have B81' : rs'.length ≤ 81 := by
    have : 3 ^ h ≤ 3 ^ 4 := Nat.pow_le_pow_right (by omega) h4
    have := B'.len
    omega
  -- entries
  obtain ⟨ρ5, lp5, g5, o5, T, y7, y9, y10, y13, y16, y17, y18, y19, y20, rfl, hb5, hT1, hT2, _⟩ := loopM (step := stepS (gN 7) l__law_drawn_table_3) (f := kD) (xs := rs') (ρ := [some g4, some (houD false h L), some (.int (h : Int)), some (ownD false szl), some (.lst false (rs'.map kD)), w5, w6, x7, some (.lst true (Rs.map ruF)), x9, x10, x11, x12, x13, some (.int (p : Int)), some (.lst true (([] : List Ent).map entT)), none, none, none, none, none])
    (fun j ρ => ∃ (g5 : D) (o5 : Bool) (T : List Ent) (y7 y9 y10 y13 y16 y17 y18 y19 y20 : Option D), ρ = [some g5, some (houD false h L), some (.int (h : Int)), some (ownD false szl), some (.lst o5 (rs'.map kD)), w5, w6, y7, some (.lst true (Rs.map ruF)), y9, y10, x11, x12, y13, some (.int (p : Int)), some (.lst true (T.map entT)), y16, y17, y18, y19, y20] ∧ Bag (n + h + 400 * L.length + 1 + j) g5 ∧ T.map (·.1) = rs'.take j ∧ (∀ e ∈ T, e.2.2 = folL h L rs' Rs e.1 L.length) ∧ immO (some y13) = true)
    ⟨g4, false, [], x7, x9, x10, x13, none, none, none, none, none, rfl, hb4, by simp, by simp, i13⟩ (by
      rintro j x ρ hj ⟨g5, o5, T, y7, y9, y10, y13, y16, y17, y18, y19, y20, rfl, hb5, hT1, hT2, j13⟩
      have hjl := (List.getElem?_eq_some_iff.mp hj).1
      have tl : T.length ≤ 100 := by
        have := congrArg List.length hT1
        rw [List.length_map, List.length_take] at this
        omega
      obtain ⟨g6, b, z9, z10, z13, z16, z17, z18, z19, z20, st, hb6, k13⟩ := dt3 H Z B' hRl hR' (List.mem_of_getElem? hj) (T := T) tl hb5 (by omega) (o := o5) (v2 := some (.int (h : Int))) (v3 := some (ownD false szl)) (v5 := w5) (v6 := w6) (v7 := y7) (v9 := y9) (v10 := y10) (v11 := x11) (v12 := x12) (v13 := y13) (v14 := some (.int (p : Int))) (v16 := y16) (v17 := y17) (v18 := y18) (v19 := y19) (v20 := y20) j13
      refine ⟨_, st, g6, false, _, _, z9, z10, z13, z16, z17, z18, z19, z20, rfl, hb6, ?_, fun e he => ?_, k13⟩
      · rw [List.map_append, hT1, List.take_succ, hj]; rfl
      · rcases List.mem_append.mp he with z | z
        · exact hT2 e z
        · rw [List.mem_singleton] at z; subst z; rfl)
  rw [List.take_length] at hT1
  obtain ⟨tb, t81⟩ := drawn_tab H B' hR' hRl hT1 hT2
  refine ⟨g5, T, ?_, hb5.mono (by omega), tb, t81⟩
  have f4 : frz (.lst o2 (rs.map kD)) = .lst false (rs.map kD) := by rw [frz_lst, frzs_kD]
  have f3 : frz (.lst o3 (rs.map kD)) = .lst false (rs.map kD) := by rw [frz_lst, frzs_kD]
  have f5 : frz (D.lst false (rs.map kD)) = .lst false (rs.map kD) := by rw [frz_lst, frzs_kD]
  have f6 : frz (D.lst true (rs'.map kD)) = .lst false (rs'.map kD) := by rw [frz_lst, frzs_kD]
  have i6 : itemsL (.lst false (rs'.map kD)) = some (rs'.map kD) := by rw [items_l, frzs_kD]
  have fs : frz (ownD true szl) = ownD false szl := frz_own
  have si : itemsL (ownD false szl) = some (szl.map natD) := own_items
  have im := imms_kD (rs := rs)
  have gl3 : gLen [.lst o3 (rs.map kD)] = some (.int (rs.length : Int)) := by rw [len_l, List.length_map]
  have a1 : gSl (.lst false (rs.map kD)) (some (p : Int)) none = some (.lst true ((rs.drop p).map kD)) := by rw [sl_from im (by rw [List.length_map]; exact hp'), List.map_drop]
  have a2 : gSl (.lst false (rs.map kD)) none (some (p : Int)) = some (.lst true ((rs.take p).map kD)) := by rw [sl_to im, List.map_take]
  have a3 : gAdd (.lst true ((rs.drop p).map kD)) (.lst true ((rs.take p).map kD)) = some (.lst true (rs'.map kD)) := by
    rw [add_ll, if_pos ⟨⟨imms_kD, imms_kD⟩, by rw [List.length_map, List.length_map, List.length_drop, List.length_take]; unfold sizeLine; omega⟩, hrs', List.map_append]
  have e1' : fLc (fItN rng1 (fCons (fVar 2) fNil)) (gN 13) fYes (fOp2 gAdd (fK (.int 1)) (fCallIO 0 2 m__law_take (fCons (fK (.int 3)) fNil))) [13] [some g, some (houD false h L), some (.int (h : Int)), none, none, none, none, none, none, none, none, none, none, none, none, none, none, none, none, none, none]
      = .ok (ownD true szl) [some g1, some (houD false h L), some (.int (h : Int)), none, none, none, none, none, none, none, none, none, none, none, none, none, none, none, none, none, none] := by
    rw [e1]
    show Hap.R.ok (D.lst true (szl.map natD)) _ = _
    congr 1
  have lp2 : loopS (stepS (gN 5) l__law_drawn_table_8) (szl.map natD) [some g1, some (houD false h L), some (.int (h : Int)), some (ownD false szl), some (.lst true [.tup []]), none, none, none, none, none, none, none, none, none, none, none, none, none, none, none, none] = _ := lp2
  have lp3 : loopS (stepS (gT 2 (gsC (gN 9) (gsC (gN 10) gsN))) l__law_drawn_table_6) (L.map (entD false)) [some g1, some (houD false h L), some (.int (h : Int)), some (ownD false szl), some (.lst o2 (rs.map kD)), w5, w6, w7, some (.lst true []), none, none, none, none, none, none, none, none, none, none, none, none] = _ := lp3
  have lp5 : loopS (stepS (gN 7) l__law_drawn_table_3) (rs'.map kD) [some g4, some (houD false h L), some (.int (h : Int)), some (ownD false szl), some (.lst false (rs'.map kD)), w5, w6, x7, some (.lst true (Rs.map ruF)), x9, x10, x11, x12, x13, some (.int (p : Int)), some (.lst true []), none, none, none, none, none] = _ := lp5
  unfold m__law_drawn_table; rw [semOf_ap]; unfold b__law_drawn_table
  have iT : isImm (D.lst true (T.map entT)) = false := rfl
  generalize D.lst true (T.map entT) = TT' at *
  generalize D.lst o5 (rs'.map kD) = R5 at *
  generalize D.lst true (rs'.map kD) = R6t at *
  generalize D.lst false (rs'.map kD) = R6 at *
  generalize rs'.map kD = RX at *
  generalize D.lst true ((rs.drop p).map kD) = RD at *
  generalize D.lst true ((rs.take p).map kD) = RTk at *
  generalize D.lst o3 (rs.map kD) = R3 at *
  generalize D.lst o2 (rs.map kD) = R2 at *
  generalize D.lst false (rs.map kD) = RF at *
  generalize D.lst true (Rs.map ruF) = RR at *
  generalize ownD true szl = SZt at *
  generalize ownD false szl = SZ at *
  generalize szl.map natD = SX at *
  generalize D.lst false (L.map (entD false)) = LE at *
  generalize L.map (entD false) = LX at *
  generalize houD false h L = HH at *
  simp [-ix_t, -len_l, h0, hix, ie, ite, s0, s1', e1', fs, si, lp2, lp3, gl3, t4, f3, f5, a1, a2, a3, f6, i6, lp5, iT]
def lkP : List (List Nat × List Nat) → List Nat → Option (List Nat)
  | [], _ => none
  | p :: P, x => if p.1 = x then some p.2 else lkP P x
theorem lkP_cons {p : List Nat × List Nat} {P : List (List Nat × List Nat)} {x : List Nat} : lkP (p :: P) x = if p.1 = x then some p.2 else lkP P x := rfl
theorem lkP_app {P Q : List (List Nat × List Nat)} {x : List Nat} : lkP (P ++ Q) x = match lkP P x with | some y => some y | none => lkP Q x := by
  induction P with
  | nil => rfl
  | cons p P ih =>
    rw [List.cons_append, lkP_cons, lkP_cons]
    by_cases c : p.1 = x
    · rw [if_pos c, if_pos c]
    · rw [if_neg c, if_neg c, ih]
def ruD (P : List (List Nat × List Nat)) : D := .dcT true (P.map fun p => kK p.1) (P.map fun p => kD p.2)
theorem ru_get : ∀ (P : List (List Nat × List Nat)) (x : List Nat), getK (P.map fun p => kK p.1) (P.map fun p => kD p.2) (kK x) = (lkP P x).map kD
  | [], x => rfl
  | p :: P, x => by
    rw [List.map_cons, List.map_cons]
    unfold getK
    rw [ru_get P x, lkP_cons]
    by_cases c : p.1 = x
    · rw [if_pos (kK_inj.mpr c), if_pos c]; rfl
    · rw [if_neg fun z => c (kK_inj.mp z), if_neg c]
theorem ru_ix {P : List (List Nat × List Nat)} {x y : List Nat} (h : lkP P x = some y) : gIx (ruD P) (kD x) = some (kD y) := by
  show (keysOf (x.map natD)).bind _ = _
  rw [keysOf_kK, Option.bind_some, ru_get, h]; rfl
theorem ru_mem : ∀ {P : List (List Nat × List Nat)} {x : List Nat}, kK x ∈ (P.map fun p => kK p.1) ↔ (lkP P x).isSome = true
  | [], x => by simp [lkP]
  | p :: P, x => by
    rw [List.map_cons, List.mem_cons, ru_mem (P := P), lkP_cons]
    by_cases c : p.1 = x
    · rw [if_pos c]; exact ⟨fun _ => rfl, fun _ => .inl (kK_inj.mpr c.symm)⟩
    · rw [if_neg c]
      exact ⟨fun z => z.resolve_left fun w => c (kK_inj.mp w).symm, .inr⟩
theorem ru_put {P : List (List Nat × List Nat)} {x y : List Nat} (hl : P.length < sizeLine) (h : lkP P x = none) : putD (ruD P) (kD x) (kD y) = some (ruD (P ++ [(x, y)])) := by
  have e : putD (ruD P) (kD x) (kD y) = match keysOf (x.map natD) with
    | some c => if (P.map fun p => kD p.2).length < sizeLine then some (.dcT true (putKs (P.map fun p => kK p.1) (P.map fun p => kD p.2) c (kD y)).1 (putKs (P.map fun p => kK p.1) (P.map fun p => kD p.2) c (kD y)).2) else none
    | none => none := rfl
  rw [e, keysOf_kK]
  dsimp only
  rw [if_pos (by rw [List.length_map]; exact hl)]
  unfold putKs
  rw [if_neg fun z => by have := ru_mem.mp z; rw [h] at this; cases this]
  unfold ruD
  simp
theorem lookup_done {P : List (List Nat × List Nat)} {x y z w : List Nat} (h : lkP P z = some w) : lkP (P ++ [(x, y)]) z = some w := by rw [lkP_app, h]
theorem lookup_new {P : List (List Nat × List Nat)} {x y : List Nat} (h : lkP P x = none) : lkP (P ++ [(x, y)]) x = some y := by
  rw [lkP_app, h]
  show (if x = x then some y else none) = _
  rw [if_pos rfl]
theorem eq_kD {x y : List Nat} : gEq (kD x) (kD y) = some (.bl (decide (x = y))) := eq_cod eqd_kD (sh_kD.mono (by omega)) (sh_kD.mono (by omega)) rfl
theorem ne_kD {x y : List Nat} : gNe (kD x) (kD y) = some (.bl (!decide (x = y))) := by unfold gNe; rw [eq_kD]
theorem nin_of {d e : D} {b : Bool} (h : gIn d e = some (.bl b)) : gNin d e = some (.bl (!b)) := by
  unfold gIn at h
  unfold gNin
  cases c : gInB d e with
  | none => rw [c] at h; cases h
  | some b' => rw [c] at h; cases h; rfl
theorem ru_in {P : List (List Nat × List Nat)} {x : List Nat} : gIn (kD x) (ruD P) = some (.bl (lkP P x).isSome) := by
  have e : gIn (kD x) (ruD P) = ((keysOf (x.map natD)).map fun k => memK k (P.map fun p => kK p.1)).map .bl := rfl
  rw [e, keysOf_kK, Option.map_some, Option.map_some]
  have : memK (kK x) (P.map fun p => kK p.1) = (lkP P x).isSome := by
    rw [Bool.eq_iff_iff, memK_iff]
    exact ru_mem
  rw [this]
theorem repl_same : ∀ {P : List (List Nat × List Nat)} {x y : List Nat}, (P.map (·.1)).Nodup → lkP P x = some y → replK (P.map fun p => kK p.1) (P.map fun p => kD p.2) (kK x) (kD y) = P.map fun p => kD p.2
  | [], x, y, _, h => by cases h
  | p :: P, x, y, nd, h => by
    rw [List.map_cons, List.nodup_cons] at nd
    rw [List.map_cons, List.map_cons]
    unfold replK
    rw [lkP_cons] at h
    by_cases c : p.1 = x
    · rw [if_pos c] at h; cases h
      rw [if_pos (kK_inj.mpr c)]
      congr 1
      have hx : x ∉ P.map (·.1) := c ▸ nd.1
      clear nd
      induction P with
      | nil => rfl
      | cons q P ih =>
        rw [List.map_cons, List.mem_cons, not_or] at hx
        rw [List.map_cons, List.map_cons]
        unfold replK
        rw [if_neg fun z => hx.1 (kK_inj.mp z).symm, ih hx.2]
    · rw [if_neg c] at h
      rw [if_neg fun z => c (kK_inj.mp z), repl_same nd.2 h]
theorem ru_put2 {P : List (List Nat × List Nat)} {x y : List Nat} (hl : P.length < sizeLine) (nd : (P.map (·.1)).Nodup) (h : lkP P x = some y) : putD (ruD P) (kD x) (kD y) = some (ruD P) := by
  have e : putD (ruD P) (kD x) (kD y) = match keysOf (x.map natD) with
    | some c => if (P.map fun p => kD p.2).length < sizeLine then some (.dcT true (putKs (P.map fun p => kK p.1) (P.map fun p => kD p.2) c (kD y)).1 (putKs (P.map fun p => kK p.1) (P.map fun p => kD p.2) c (kD y)).2) else none
    | none => none := rfl
  rw [e, keysOf_kK]
  dsimp only
  rw [if_pos (by rw [List.length_map]; exact hl)]
  unfold putKs
  rw [if_pos (ru_mem.mpr (by rw [h]; rfl)), repl_same nd h]
  rfl
/-- the form of entries -/
structure Form (h : Nat) (L : List (Nat × List Nat)) (T : List Ent) : Prop where
  ml : ∀ e ∈ T, e.1.length = h
  fl : ∀ e ∈ T, e.2.2.length = L.length
  flt : ∀ e ∈ T, ∀ x ∈ e.2.2, x < T.length
theorem Tab.form {T : List Ent} (t : Tab h L T) : Form h L T := ⟨t.ml, t.fl, t.flt⟩
/-- a letter is done by the memories of its hands alone -/
structure Apt (h : Nat) (L : List (Nat × List Nat)) (T : List Ent) (k : Nat) : Prop where
  stay : ∀ e ∈ T, ∀ i, i < h → i ∉ (L.getD k (0, [])).2 → (bhT T e k).getD i 0 = e.1.getD i 0
  same : ∀ e ∈ T, ∀ e' ∈ T, keyN (L.getD k (0, [])).2 e.1 = keyN (L.getD k (0, [])).2 e'.1 → keyN (L.getD k (0, [])).2 (bhT T e k) = keyN (L.getD k (0, [])).2 (bhT T e' k)
theorem bh_at {T : List Ent} (F : Form h L T) {e : Ent} (he : e ∈ T) {k : Nat} (hk : k < L.length) : ∃ f ∈ T, gIx (.lst false (T.map entT)) (natD (e.2.2.getD k 0)) = some (entT f) ∧ f.1 = bhT T e k := by
  have hl : k < e.2.2.length := by rw [F.fl e he]; exact hk
  have hm : e.2.2.getD k 0 ∈ e.2.2 := by rw [List.getD_eq_getElem?_getD, List.getElem?_eq_getElem hl]; exact List.getElem_mem hl
  have hlt := F.flt e he _ hm
  refine ⟨T[e.2.2.getD k 0], List.getElem_mem hlt, ?_, ?_⟩
  · have e6 : natD (e.2.2.getD k 0) = .int ((e.2.2.getD k 0 : Nat) : Int) := rfl
    rw [e6, ix_l, at_nat, List.getElem?_map, List.getElem?_eq_getElem hlt]; rfl
  · unfold bhT
    generalize e.2.2.getD k 0 = q at *
    rw [List.getD_eq_getElem?_getD, List.getElem?_eq_getElem hlt]; rfl
theorem ent_0 {e : Ent} : gIx (entT e) (.int 0) = some (kD e.1) := by unfold entT; rw [ix_t, at_0]; rfl
theorem da1 {h4 : h ≤ 4} {ow b m : List Nat} (lb : b.length = h) (lm : m.length = h) {v0 v1 v2 v4 v6 v7 v9 v10 v11 : Option D} : Goes
    (fun ρ => (∀ i, i < h → i ∉ ow → b.getD i 0 = m.getD i 0) ∧ ∃ w9, ρ = [v0, v1, v2, some (ownD false ow), v4, some (kD m), v6, v7, some (kD b), w9, v10, v11] ∧ (0 < h → immO (some w9) = true))
    (fun d ρ => d = .bl false ∧ ¬ ∀ i, i < h → i ∉ ow → b.getD i 0 = m.getD i 0)
    (loopS (stepS (gN 9) l_is_done_apart_1) ((List.range h).map fun i => .int ((i : Nat) : Int)) [v0, v1, v2, some (ownD false ow), v4, some (kD m), v6, v7, some (kD b), v9, v10, v11]) := by
  have key := loopT (step := stepS (gN 9) l_is_done_apart_1) (f := fun i : Nat => .int (i : Int)) (T := fun d ρ => d = .bl false ∧ ¬ ∀ i, i < h → i ∉ ow → b.getD i 0 = m.getD i 0)
    (fun xs ρ => ∃ j, xs = (List.range h).drop j ∧ j ≤ h ∧ (∀ i, i < j → i ∉ ow → b.getD i 0 = m.getD i 0) ∧ ∃ w9, ρ = [v0, v1, v2, some (ownD false ow), v4, some (kD m), v6, v7, some (kD b), w9, v10, v11] ∧ (0 < j → immO (some w9) = true))
    (List.range h) [v0, v1, v2, some (ownD false ow), v4, some (kD m), v6, v7, some (kD b), v9, v10, v11]
    ⟨0, rfl, Nat.zero_le _, fun i hi => by omega, v9, rfl, fun z => by omega⟩ (by
      rintro i0 xs ρ ⟨j, e, hj, hold, w9, rfl, _⟩
      have hjl : j < h := by
        rcases Nat.lt_or_ge j h with z | z
        · exact z
        · rw [List.drop_eq_nil_of_le (by rw [List.length_range]; exact z)] at e; cases e
      rw [List.drop_eq_getElem_cons (by rw [List.length_range]; exact hjl), List.getElem_range] at e
      obtain ⟨e1, e2⟩ := List.cons.inj e
      rw [e1, e2]
      clear e e1 e2
      have ni := nin_of (gd_in (gd := ow) (y := j))
      have ab := kD_at (x := b) (i := j) (by omega)
      have am := kD_at (x := m) (i := j) (by omega)
      rw [ap_step]; unfold l_is_done_apart_1
      have nn : gNe (natD (b.getD j 0)) (natD (m.getD j 0)) = some (.bl (!decide (b.getD j 0 = m.getD j 0))) := by
        unfold natD
        rw [ne_ii]
        congr 3
        rw [decide_eq_decide]; omega
      by_cases c : j ∈ ow
      · rw [decide_eq_true c] at ni
        refine .inl ⟨[v0, v1, v2, some (ownD false ow), v4, some (kD m), v6, v7, some (kD b), some (.int (j : Int)), v10, v11], ?_, j + 1, rfl, hjl, fun i hi hn => ?_, _, rfl, fun _ => rfl⟩
        · generalize ownD false ow = OW at *
          generalize kD m = KM at *
          generalize kD b = KB at *
          simp [ni]
        · by_cases c2 : i = j
          · subst c2; exact absurd c hn
          · exact hold i (by omega) hn
      · rw [decide_eq_false c] at ni
        by_cases c3 : b.getD j 0 = m.getD j 0
        · rw [decide_eq_true c3] at nn
          refine .inl ⟨[v0, v1, v2, some (ownD false ow), v4, some (kD m), v6, v7, some (kD b), some (.int (j : Int)), v10, v11], ?_, j + 1, rfl, hjl, fun i hi hn => ?_, _, rfl, fun _ => rfl⟩
          · generalize ownD false ow = OW at *
            generalize kD m = KM at *
            generalize kD b = KB at *
            generalize natD (b.getD j 0) = NB at *
            generalize natD (m.getD j 0) = NM at *
            simp [ni, ab, am, nn]
          · by_cases c2 : i = j
            · subst c2; exact c3
            · exact hold i (by omega) hn
        · rw [decide_eq_false c3] at nn
          refine .inr ⟨.bl false, [v0, v1, v2, some (ownD false ow), v4, some (kD m), v6, v7, some (kD b), some (.int (j : Int)), v10, v11], ?_, rfl, fun z => c3 (z j hjl c)⟩
          generalize ownD false ow = OW at *
          generalize kD m = KM at *
          generalize kD b = KB at *
          generalize natD (b.getD j 0) = NB at *
          generalize natD (m.getD j 0) = NM at *
          simp [ni, ab, am, nn])
  rcases key with ⟨ρ, e, j, e2, hj, hold, w9, rfl, i9⟩ | ⟨d, ρ, e, t⟩
  · have : j = h := by
      have := congrArg List.length e2
      rw [List.length_drop, List.length_range] at this
      simp at this; omega
    subst this
    exact .inl ⟨_, e, hold, w9, rfl, i9⟩
  · exact .inr ⟨d, ρ, e, t⟩
theorem ent_gt {e : Ent} {v0 v1 v2 v3 v4 v5 v6 v7 v8 v9 v10 v11 : Option D} : gT 3 (gsC (gN 5) (gsC (gN 6) (gsC (gN 7) gsN))) (entT e) [v0, v1, v2, v3, v4, v5, v6, v7, v8, v9, v10, v11] = some [v0, v1, v2, v3, v4, some (kD e.1), some (.bl e.2.1), some (kD e.2.2), v8, v9, v10, v11] := by
  unfold entT; simp
theorem da_lc {ow m : List Nat} (hl : ow.length ≤ 100) (lt : ∀ i ∈ ow, i < m.length) {a : Nat} {v0 v1 v2 v4 v5 v6 v7 v8 v9 v10 v11 : Option D} (ha : [v0, v1, v2, some (ownD false ow), v4, v5, v6, v7, v8, v9, v10, v11][a]? = some (some (kD m))) (h9 : a ≠ 9) (i9 : immO (some v9) = true) :
    fLc (fIt itemsL (fVar 3)) (gN 9) fYes (fI (vOp2 gIx (vVar a) (vVar 9))) [9] [v0, v1, v2, some (ownD false ow), v4, v5, v6, v7, v8, v9, v10, v11]
      = .ok (.lst true (ow.map fun i => natD (m.getD i 0))) [v0, v1, v2, some (ownD false ow), v4, v5, v6, v7, v8, v9, v10, v11] := by
  have oi := own_items (o := false) (xs := ow)
  have fo : frz (ownD false ow) = ownD false ow := frz_own
  refine lc_all (g := natD) (by simp [fo, oi]) (by simp [i9]) (by unfold sizeLine; omega) fun i hi => ?_
  have ka := kD_at (x := m) (i := i) (lt i hi)
  have hv : vVar a [v0, v1, v2, some (ownD false ow), v4, v5, v6, v7, v8, some (natD i), v10, v11] = some (kD m) := by
    rw [ap_vvar]
    have e1 : [v0, v1, v2, some (ownD false ow), v4, v5, v6, v7, v8, some (natD i), v10, v11] = ([v0, v1, v2, some (ownD false ow), v4, v5, v6, v7, v8, v9, v10, v11] : Ev).set 9 (some (natD i)) := rfl
    rw [e1, List.getElem?_set_ne (Ne.symm h9), ha]; rfl
  refine ⟨[v0, v1, v2, some (ownD false ow), v4, v5, v6, v7, v8, some (natD i), v10, v11], rfl, [v0, v1, v2, some (ownD false ow), v4, v5, v6, v7, v8, some (natD i), v10, v11], ?_, rfl⟩
  rw [ap_I, v2_of hv rfl ka]; rfl
theorem key_tup {ow m : List Nat} : gTuple [.lst true (ow.map fun i => natD (m.getD i 0))] = some (kD (keyN ow m)) := by
  show (if _ then _ else _) = _
  rw [if_pos (imms_map fun _ _ => rfl)]
  unfold kD keyN
  rw [List.map_map]; rfl
structure DaI (ow : List Nat) (T : List Ent) (k : Nat) (h : Nat) (pre : List Ent) (P : List (List Nat × List Nat)) : Prop where
  get : ∀ e ∈ pre, lkP P (keyN ow e.1) = some (keyN ow (bhT T e k))
  nd : (P.map (·.1)).Nodup
  from_ : ∀ x y, lkP P x = some y → ∃ e ∈ pre, keyN ow e.1 = x ∧ keyN ow (bhT T e k) = y
  few : P.length ≤ pre.length
  stay : ∀ e ∈ pre, ∀ i, i < h → i ∉ ow → (bhT T e k).getD i 0 = e.1.getD i 0
theorem da2 (H : House h L) {T : List Ent} (F : Form h L T) (n600 : T.length ≤ 700) {k : Nat} (hk : k < L.length) {pre : List Ent} {e : Ent} (he : e ∈ T) {P : List (List Nat × List Nat)} (hpl : pre.length ≤ 700) (I : DaI (L.getD k (0, [])).2 T k h pre P) {v5 v6 v7 v8 v9 v10 v11 : Option D} : Goes
    (fun ρ => ∃ P' w8 w9 w10 w11, ρ = [some (houD false h L), some (.lst false (T.map entT)), some (.int (k : Int)), some (ownD false (L.getD k (0, [])).2), some (ruD P'), some (kD e.1), some (.bl e.2.1), some (kD e.2.2), w8, w9, w10, w11] ∧ DaI (L.getD k (0, [])).2 T k h (pre ++ [e]) P')
    (fun d ρ => d = .bl false ∧ ∃ e' ∈ pre ++ [e], ¬ ((∀ i, i < h → i ∉ (L.getD k (0, [])).2 → (bhT T e k).getD i 0 = e.1.getD i 0) ∧ (keyN (L.getD k (0, [])).2 e'.1 = keyN (L.getD k (0, [])).2 e.1 → keyN (L.getD k (0, [])).2 (bhT T e' k) = keyN (L.getD k (0, [])).2 (bhT T e k))))
    (stepS (gT 3 (gsC (gN 5) (gsC (gN 6) (gsC (gN 7) gsN)))) l_is_done_apart_2 (entT e) [some (houD false h L), some (.lst false (T.map entT)), some (.int (k : Int)), some (ownD false (L.getD k (0, [])).2), some (ruD P), v5, v6, v7, v8, v9, v10, v11]) := by
  have h4 := H.h4
  have h2 := H.h2
  obtain ⟨f, hf, ix, ef⟩ := bh_at F he hk
  have lb : (bhT T e k).length = h := by rw [← ef]; exact F.ml f hf
  have lm : e.1.length = h := F.ml e he
  have ew : L.getD k (0, []) = L[k] := by rw [List.getD_eq_getElem?_getD, List.getElem?_eq_getElem hk]; rfl
  have wo : Own h (L.getD k (0, [])).2 := by rw [ew]; exact H.own _ (List.getElem_mem hk)
  have wlt := wo.lt
  have few := rise_len (L.getD k (0, [])).2 0 h wo.rise fun x hx => ⟨by omega, wo.lt x hx⟩
  generalize hOW : (L.getD k (0, [])).2 = OW at *
  have fx : gIx (kD e.2.2) (.int (k : Int)) = some (natD (e.2.2.getD k 0)) := kD_at (by rw [F.fl e he]; exact hk)
  have f0 : gIx (entT f) (.int 0) = some (kD (bhT T e k)) := by rw [ent_0, ef]
  have h0 : gIx (houD false h L) (.int 0) = some (.int (h : Int)) := by unfold houD; simp
  have r1 := rng1_n (n := h) (by omega)
  have e1 : fAsg (fI (vOp2 gIx (vOp2 gIx (vVar 1) (vOp2 gIx (vVar 7) (vVar 2))) (vK (.int 0)))) (gN 8) [some (houD false h L), some (.lst false (T.map entT)), some (.int (k : Int)), some (ownD false OW), some (ruD P), some (kD e.1), some (.bl e.2.1), some (kD e.2.2), v8, v9, v10, v11] = .nx [some (houD false h L), some (.lst false (T.map entT)), some (.int (k : Int)), some (ownD false OW), some (ruD P), some (kD e.1), some (.bl e.2.1), some (kD e.2.2), some (kD (bhT T e k)), v9, v10, v11] := by
    have iK := imm_kD (x := bhT T e k)
    generalize kD (bhT T e k) = KB at *
    generalize D.lst false (T.map entT) = TD at *
    generalize kD e.2.2 = KF at *
    generalize natD (e.2.2.getD k 0) = NF at *
    simp [fx, ix, f0, iK]
  rw [ap_step, ent_gt, tgR_s]; unfold l_is_done_apart_2
  rw [ap_seq, e1, seq_nx, ap_seq]
  have e2 : ∀ ρ : Ev, ρ[0]? = some (some (houD false h L)) → fItN rng1 (fCons (fI (vOp2 gIx (vVar 0) (vK (.int 0)))) fNil) ρ = .ok ((List.range h).map fun i => .int ((i : Nat) : Int)) ρ := fun ρ h => by
    generalize houD false _ L = HH at *
    simp [h, h0, r1]
  rw [ap_for, e2 _ rfl, rsof_ok]
  rcases da1 (h4 := h4) (ow := OW) lb lm (v0 := some (houD false h L)) (v1 := some (.lst false (T.map entT))) (v2 := some (.int (k : Int))) (v4 := some (ruD P)) (v6 := some (.bl e.2.1)) (v7 := some (kD e.2.2)) (v9 := v9) (v10 := v10) (v11 := v11) with ⟨ρ, lp, hs, w9, rfl, i9⟩ | ⟨d, ρ, lp, rfl, hn⟩
  rotate_left
  · exact .inr ⟨_, _, by rw [lp, seq_rt], rfl, e, by simp, fun z => hn z.1⟩
  rw [lp, seq_nx]
  have i9 := i9 (by omega)
  have c1 := fun v10 v11 => da_lc (m := e.1) (ow := OW) (by omega) (by rw [lm]; exact wlt) (a := 5) (v0 := some (houD false h L)) (v1 := some (.lst false (T.map entT))) (v2 := some (.int (k : Int))) (v4 := some (ruD P)) (v5 := some (kD e.1)) (v6 := some (.bl e.2.1)) (v7 := some (kD e.2.2)) (v8 := some (kD (bhT T e k))) (v10 := v10) (v11 := v11) rfl (by decide) i9
  have c2 := fun v10 v11 => da_lc (m := bhT T e k) (ow := OW) (by omega) (by rw [lb]; exact wlt) (a := 8) (v0 := some (houD false h L)) (v1 := some (.lst false (T.map entT))) (v2 := some (.int (k : Int))) (v4 := some (ruD P)) (v5 := some (kD e.1)) (v6 := some (.bl e.2.1)) (v7 := some (kD e.2.2)) (v8 := some (kD (bhT T e k))) (v10 := v10) (v11 := v11) rfl (by decide) i9
  have k1 := key_tup (ow := OW) (m := e.1)
  have k2 := key_tup (ow := OW) (m := bhT T e k)
  have a1 : ∀ v10 v11, fAsg (fOpN gTuple (fCons (fLc (fIt itemsL (fVar 3)) (gN 9) fYes (fI (vOp2 gIx (vVar 5) (vVar 9))) [9]) fNil)) (gN 10) [some (houD false h L), some (.lst false (T.map entT)), some (.int (k : Int)), some (ownD false OW), some (ruD P), some (kD e.1), some (.bl e.2.1), some (kD e.2.2), some (kD (bhT T e k)), w9, v10, v11] = .nx [some (houD false h L), some (.lst false (T.map entT)), some (.int (k : Int)), some (ownD false OW), some (ruD P), some (kD e.1), some (.bl e.2.1), some (kD e.2.2), some (kD (bhT T e k)), w9, some (kD (keyN OW e.1)), v11] := fun v10 v11 => by
    rw [ap_asg, ap_opN, ap_cons, c1, bind_ok, ap_nil, bind_ok, bind_ok, k1, of_some, rsof_ok, ap_gN, tgR_s]; rfl
  have a2 : ∀ v10 v11, fAsg (fOpN gTuple (fCons (fLc (fIt itemsL (fVar 3)) (gN 9) fYes (fI (vOp2 gIx (vVar 8) (vVar 9))) [9]) fNil)) (gN 11) [some (houD false h L), some (.lst false (T.map entT)), some (.int (k : Int)), some (ownD false OW), some (ruD P), some (kD e.1), some (.bl e.2.1), some (kD e.2.2), some (kD (bhT T e k)), w9, v10, v11] = .nx [some (houD false h L), some (.lst false (T.map entT)), some (.int (k : Int)), some (ownD false OW), some (ruD P), some (kD e.1), some (.bl e.2.1), some (kD e.2.2), some (kD (bhT T e k)), w9, v10, some (kD (keyN OW (bhT T e k)))] := fun v10 v11 => by
    rw [ap_asg, ap_opN, ap_cons, c2, bind_ok, ap_nil, bind_ok, bind_ok, k2, of_some, rsof_ok, ap_gN, tgR_s]; rfl
  rw [ap_seq, a1, seq_nx, ap_seq, a2, seq_nx]
  have gi := ru_in (P := P) (x := keyN OW e.1)
  have fK := frz_kD (x := keyN OW e.1)
  have fD := frz_kD (x := keyN OW (bhT T e k))
  have hPs : P.length < sizeLine := by have := I.few; unfold sizeLine; omega
  cases c : lkP P (keyN OW e.1) with
  | none =>
    rw [c] at gi
    have pt := ru_put (y := keyN OW (bhT T e k)) hPs c
    refine .inl ⟨[some (houD false h L), some (.lst false (T.map entT)), some (.int (k : Int)), some (ownD false OW), some (ruD (P ++ [(keyN OW e.1, keyN OW (bhT T e k))])), some (kD e.1), some (.bl e.2.1), some (kD e.2.2), some (kD (bhT T e k)), w9, some (kD (keyN OW e.1)), some (kD (keyN OW (bhT T e k)))], ?_, _, _, _, _, _, rfl, ⟨fun g hg => ?_, ?_, fun x y hxy => ?_, by simp [I.few], fun g hg => ?_⟩⟩
    · generalize ruD (P ++ [(keyN OW e.1, keyN OW (bhT T e k))]) = R2 at *
      generalize ruD P = RU at *
      generalize kD (keyN OW e.1) = KK at *
      generalize kD (keyN OW (bhT T e k)) = DD at *
      generalize kD (bhT T e k) = KB at *
      generalize D.lst false (T.map entT) = TD at *
      generalize ownD false OW = OE at *
      generalize houD false h L = HH at *
      simp [gi, fK, fD, putR, pt]
    · rcases List.mem_append.mp hg with z | z
      · exact lookup_done (I.get g z)
      · rw [List.mem_singleton] at z; subst z; exact lookup_new c
    · rw [List.map_append, List.nodup_append]
      refine ⟨I.nd, by simp, fun a ha b hb z => ?_⟩
      simp at hb
      subst hb; subst z
      obtain ⟨p, hp, hpe⟩ := List.mem_map.mp ha
      have : (lkP P (keyN OW e.1)).isSome = true := ru_mem.mp (List.mem_map.mpr ⟨p, hp, by rw [hpe]⟩)
      rw [c] at this; cases this
    · rw [lkP_app] at hxy
      cases c3 : lkP P x with
      | some y' =>
        rw [c3] at hxy; cases hxy
        obtain ⟨g, hg, h1, h2⟩ := I.from_ x y c3
        exact ⟨g, List.mem_append_left _ hg, h1, h2⟩
      | none =>
        rw [c3] at hxy
        have hxy : (if keyN OW e.1 = x then some (keyN OW (bhT T e k)) else none) = some y := hxy
        by_cases c4 : keyN OW e.1 = x
        · rw [if_pos c4] at hxy
          exact ⟨e, by simp, c4, Option.some.inj hxy⟩
        · rw [if_neg c4] at hxy; cases hxy
    · rcases List.mem_append.mp hg with z | z
      · exact I.stay g z
      · rw [List.mem_singleton] at z; subst z; exact hs
  | some y =>
    rw [c] at gi
    have gx := ru_ix c
    have gn := ne_kD (x := y) (y := keyN OW (bhT T e k))
    by_cases c2 : y = keyN OW (bhT T e k)
    · rw [decide_eq_true c2] at gn
      rw [c2] at c
      have pt := ru_put2 hPs I.nd c
      refine .inl ⟨[some (houD false h L), some (.lst false (T.map entT)), some (.int (k : Int)), some (ownD false OW), some (ruD P), some (kD e.1), some (.bl e.2.1), some (kD e.2.2), some (kD (bhT T e k)), w9, some (kD (keyN OW e.1)), some (kD (keyN OW (bhT T e k)))], ?_, _, _, _, _, _, rfl, ⟨fun g hg => ?_, I.nd, fun x y hxy => ?_, by have := I.few; simp; omega, fun g hg => ?_⟩⟩
      · generalize ruD P = RU at *
        generalize kD (keyN OW e.1) = KK at *
        generalize kD (keyN OW (bhT T e k)) = DD at *
        generalize kD (bhT T e k) = KB at *
        generalize D.lst false (T.map entT) = TD at *
        generalize ownD false OW = OE at *
        generalize houD false h L = HH at *
        simp [gi, gx, gn, fK, fD, putR, pt]
      · rcases List.mem_append.mp hg with z | z
        · exact I.get g z
        · rw [List.mem_singleton] at z; subst z; exact c
      · obtain ⟨g, hg, h1, h2⟩ := I.from_ x y hxy
        exact ⟨g, List.mem_append_left _ hg, h1, h2⟩
      · rcases List.mem_append.mp hg with z | z
        · exact I.stay g z
        · rw [List.mem_singleton] at z; subst z; exact hs
    · rw [decide_eq_false c2] at gn
      obtain ⟨g, hg, h1, h2⟩ := I.from_ _ _ c
      refine .inr ⟨.bl false, [some (houD false h L), some (.lst false (T.map entT)), some (.int (k : Int)), some (ownD false OW), some (ruD P), some (kD e.1), some (.bl e.2.1), some (kD e.2.2), some (kD (bhT T e k)), w9, some (kD (keyN OW e.1)), some (kD (keyN OW (bhT T e k)))], ?_, rfl, g, List.mem_append_left _ hg, fun z => c2 ?_⟩
      · generalize ruD P = RU at *
        generalize kD (keyN OW e.1) = KK at *
        generalize kD (keyN OW (bhT T e k)) = DD at *
        generalize kD (bhT T e k) = KB at *
        generalize D.lst false (T.map entT) = TD at *
        generalize ownD false OW = OE at *
        generalize houD false h L = HH at *
        simp [gi, gx, gn]
      · rw [← h2]; exact z.2 h1
theorem da_spec (H : House h L) {T : List Ent} (F : Form h L T) (n600 : T.length ≤ 700) {k : Nat} (hk : k < L.length) {b : Bool} (hb : b = true ↔ Apt h L T k) : ∃ o, m_is_done_apart [houD false h L, .lst false (T.map entT), .int (k : Int)] = .rt (.bl b) o := by
  have l6 := H.l6
  have hix : gIx (houD false h L) (.int 1) = some (.lst false (L.map (entD false))) := hou_ix1
  have hk2 : gIx (.lst false (L.map (entD false))) (.int (k : Int)) = some (entD false L[k]) := by rw [ix_l, at_nat, List.getElem?_map, List.getElem?_eq_getElem hk]; rfl
  have ew : L.getD k (0, []) = L[k] := by rw [List.getD_eq_getElem?_getD, List.getElem?_eq_getElem hk]; rfl
  have h1 : gIx (entD false L[k]) (.int 1) = some (ownD false (L.getD k (0, [])).2) := by rw [ew]; unfold entD; rw [ix_t, at_1]; rfl
  have iO : isImm (ownD false (L.getD k (0, [])).2) = true := imm_own
  have fe : frzs (T.map entT) = T.map entT := frzs_mapf fun _ _ => frz_entT
  have key := loopT (step := stepS (gT 3 (gsC (gN 5) (gsC (gN 6) (gsC (gN 7) gsN)))) l_is_done_apart_2) (f := entT) (T := fun d ρ => d = .bl false ∧ ¬ Apt h L T k)
    (fun xs ρ => ∃ pre P v5 v6 v7 v8 v9 v10 v11, pre ++ xs = T ∧ ρ = [some (houD false h L), some (.lst false (T.map entT)), some (.int (k : Int)), some (ownD false (L.getD k (0, [])).2), some (ruD P), v5, v6, v7, v8, v9, v10, v11] ∧ DaI (L.getD k (0, [])).2 T k h pre P)
    T [some (houD false h L), some (.lst false (T.map entT)), some (.int (k : Int)), some (ownD false (L.getD k (0, [])).2), some (ruD []), none, none, none, none, none, none, none]
    ⟨[], [], none, none, none, none, none, none, none, rfl, rfl, ⟨by simp, by simp, fun x y h => (by cases h), by simp, by simp⟩⟩ (by
      rintro e xs ρ ⟨pre, P, v5, v6, v7, v8, v9, v10, v11, eT, rfl, I⟩
      have he : e ∈ T := by rw [← eT]; simp
      have hpl : pre.length ≤ 700 := by
        have := congrArg List.length eT
        rw [List.length_append] at this
        omega
      rcases da2 H F n600 hk he hpl I (v5 := v5) (v6 := v6) (v7 := v7) (v8 := v8) (v9 := v9) (v10 := v10) (v11 := v11) with ⟨ρ, e1, P', w8, w9, w10, w11, rfl, I'⟩ | ⟨d, ρ, e1, rfl, e', he', hn⟩
      · exact .inl ⟨_, e1, pre ++ [e], P', _, _, _, w8, w9, w10, w11, by simp [← eT], rfl, I'⟩
      · refine .inr ⟨_, _, e1, rfl, fun A => hn ⟨A.stay e he, A.same e' ?_ e he⟩⟩
        rw [← eT]
        rcases List.mem_append.mp he' with z | z
        · exact List.mem_append_left _ z
        · rw [List.mem_singleton] at z; subst z; simp)
  have d0 : D.dcT true [] [] = ruD [] := rfl
  unfold m_is_done_apart; rw [semOf_ap]; unfold b_is_done_apart
  rcases key with ⟨ρ, e, pre, P, v5, v6, v7, v8, v9, v10, v11, eT, rfl, I⟩ | ⟨d, ρ, e, rfl, hn⟩
  · rw [List.append_nil] at eT
    subst eT
    have : b = true := hb.mpr ⟨I.stay, fun e he e' he' hkey => by
      have h1 := I.get e he
      have h2 := I.get e' he'
      rw [hkey, h2] at h1
      exact (Option.some.inj h1).symm⟩
    subst this
    have fTd : frz (D.lst false (pre.map entT)) = .lst false (pre.map entT) := by rw [frz_lst, fe]
    have iTd : itemsL (D.lst false (pre.map entT)) = some (pre.map entT) := by rw [items_l, fe]
    refine ⟨[none, none, none], ?_⟩
    generalize D.lst false (pre.map entT) = TD at *
    generalize pre.map entT = TX at *
    generalize D.lst false (L.map (entD false)) = LE at *
    generalize ownD false (L.getD k (0, [])).2 = OE at *
    generalize houD false h L = HH at *
    simp [-ix_t, hix, hk2, h1, iO, d0, fTd, iTd, e]
  · have : b = false := by
      cases b with
      | false => rfl
      | true => exact (hn (hb.mp rfl)).elim
    subst this
    refine ⟨outsOf [false, false, false] ρ, ?_⟩
    have fTd : frz (D.lst false (T.map entT)) = .lst false (T.map entT) := by rw [frz_lst, fe]
    have iTd : itemsL (D.lst false (T.map entT)) = some (T.map entT) := by rw [items_l, fe]
    generalize D.lst false (T.map entT) = TD at *
    generalize T.map entT = TX at *
    generalize D.lst false (L.map (entD false)) = LE at *
    generalize ownD false (L.getD k (0, [])).2 = OE at *
    generalize houD false h L = HH at *
    simp [-ix_t, hix, hk2, h1, iO, d0, fTd, iTd, e]
theorem isi_bl_bool {b : Bool} : gIsi [.bl b, .gv (.ty "bool")] = some (.bl true) := rfl
theorem ent_spec (H : House h L) {e : Ent} {n : Nat} (h1 : e.1.length = h) (h2 : e.2.2.length = L.length) (h3 : ∀ x ∈ e.2.2, x < n) : m_is_entry_tables [houD false h L, entT e, .int (n : Int)] = .rt (.bl true) [none, none, none] := by
  have h4 := H.h4
  have l6 := H.l6
  have it : gIsi [entT e, .gv (.ty "tuple")] = some (.bl true) := isi_tup_tuple
  have it1 : gIsi [kD e.1, .gv (.ty "tuple")] = some (.bl true) := isi_tup_tuple
  have it2 : gIsi [kD e.2.2, .gv (.ty "tuple")] = some (.bl true) := isi_tup_tuple
  have lt : gLen [entT e] = some (.int 3) := by unfold entT; rw [len_t]; rfl
  have e1 : gIx (entT e) (.int 1) = some (.bl e.2.1) := by unfold entT; rw [ix_t, at_1]; rfl
  have n1 : gLen [kD e.1] = some (.int (h : Int)) := by unfold kD; rw [len_t, List.length_map, h1]
  have n2 : gLen [kD e.2.2] = some (.int (L.length : Int)) := by unfold kD; rw [len_t, List.length_map, h2]
  have h0 : gIx (houD false h L) (.int 0) = some (.int (h : Int)) := by unfold houD; simp
  have hix : gIx (houD false h L) (.int 1) = some (.lst false (L.map (entD false))) := hou_ix1
  have ll : gLen [.lst false (L.map (entD false))] = some (.int (L.length : Int)) := by rw [len_l, List.length_map]
  have gt : ∀ v3 v4 v5 v6 : Option D, gT 3 (gsC (gN 3) (gsC (gN 4) (gsC (gN 5) gsN))) (entT e) [some (houD false h L), some (entT e), some (.int (n : Int)), v3, v4, v5, v6] = some [some (houD false h L), some (entT e), some (.int (n : Int)), some (kD e.1), some (.bl e.2.1), some (kD e.2.2), v6] := fun v3 v4 v5 v6 => by
    have : entT e = .tup [kD e.1, .bl e.2.1, kD e.2.2] := rfl
    generalize hE : entT e = E at *
    rw [this]; simp
  have ne1 : gNe (.int (h : Int)) (.int (h : Int)) = some (.bl false) := by rw [ne_ii]; simp
  have ne2 : gNe (.int (L.length : Int)) (.int (L.length : Int)) = some (.bl false) := by rw [ne_ii]; simp
  have ne3 : gNe (.int 3) (.int 3) = some (.bl false) := by rw [ne_ii]; simp
  have i1 : itemsT (kD e.1) = some (e.1.map natD) := by unfold kD; rw [items_t, frzs_mapf (f := natD) (g := natD) fun _ _ => rfl]
  have i2 : itemsT (kD e.2.2) = some (e.2.2.map natD) := by unfold kD; rw [items_t, frzs_mapf (f := natD) (g := natD) fun _ _ => rfl]
  have lc1 : fLc (fIt itemsT (fVar 3)) (gN 6) fYes (fAndD (fCall 1 m_is_whole (fCons (fVar 6) fNil)) (fI (vOp2 gGe (vVar 6) (vK (.int 0))))) [6] [some (houD false h L), some (entT e), some (.int (n : Int)), some (kD e.1), some (.bl e.2.1), some (kD e.2.2), none]
      = .ok (.lst true (e.1.map fun _ => .bl true)) [some (houD false h L), some (entT e), some (.int (n : Int)), some (kD e.1), some (.bl e.2.1), some (kD e.2.2), none] := by
    have f1 := frz_kD (x := e.1)
    generalize kD e.1 = K1 at *
    generalize kD e.2.2 = K2 at *
    generalize entT e = EE at *
    generalize houD false h L = HH at *
    refine lc_all (g := natD) (by simp [f1, i1]) (by simp) (by unfold sizeLine; omega) fun x hx => ?_
    have c0 : (0 : Int) ≤ (x : Int) := by omega
    refine ⟨[some HH, some EE, some (.int (n : Int)), some K1, some (.bl e.2.1), some K2, some (natD x)], by simp, [some HH, some EE, some (.int (n : Int)), some K1, some (.bl e.2.1), some K2, some (natD x)], ?_, by simp⟩
    simp [natD, whole_spec, c0]
  have lc2 : fLc (fIt itemsT (fVar 5)) (gN 6) fYes (fAndD (fCall 1 m_is_whole (fCons (fVar 6) fNil)) (fChain gLe gLt (fK (.int 0)) (fVar 6) (fVar 2))) [6] [some (houD false h L), some (entT e), some (.int (n : Int)), some (kD e.1), some (.bl e.2.1), some (kD e.2.2), none]
      = .ok (.lst true (e.2.2.map fun _ => .bl true)) [some (houD false h L), some (entT e), some (.int (n : Int)), some (kD e.1), some (.bl e.2.1), some (kD e.2.2), none] := by
    have f1 := frz_kD (x := e.2.2)
    generalize kD e.1 = K1 at *
    generalize kD e.2.2 = K2 at *
    generalize entT e = EE at *
    generalize houD false h L = HH at *
    refine lc_all (g := natD) (by simp [f1, i2]) (by simp) (by unfold sizeLine; omega) fun x hx => ?_
    have hx' := h3 x hx
    have c1 : (x : Int) < (n : Int) := by omega
    have c0 : (0 : Int) ≤ (x : Int) := by omega
    refine ⟨[some HH, some EE, some (.int (n : Int)), some K1, some (.bl e.2.1), some K2, some (natD x)], by simp, [some HH, some EE, some (.int (n : Int)), some K1, some (.bl e.2.1), some K2, some (natD x)], ?_, by simp⟩
    simp [natD, whole_spec, c0, c1]
  have ga1 := all_map_bl (o := true) (fun _ => true) e.1
  have ga2 := all_map_bl (o := true) (fun _ => true) e.2.2
  rw [show (e.1.all fun _ => true) = true by simp] at ga1
  rw [show (e.2.2.all fun _ => true) = true by simp] at ga2
  have bi := isi_bl_bool (b := e.2.1)
  have gv := gt none none none none
  have fE := frz_entT (e := e)
  unfold m_is_entry_tables; rw [semOf_ap]; unfold b_is_entry_tables
  generalize kD e.1 = K1 at *
  generalize kD e.2.2 = K2 at *
  generalize entT e = EE at *
  generalize D.lst false (L.map (entD false)) = LE at *
  generalize houD false h L = HH at *
  simp [-ix_t, -len_t, -len_l, -ne_ii, -all_l, it, it1, it2, lt, e1, bi, gv, fE, n1, n2, h0, hix, ll, ne1, ne2, ne3, lc1, lc2, ga1, ga2]
def insD (M : List (List Nat)) (x : List Nat) : List (List Nat) := if x ∈ M then M else M ++ [x]
theorem insD_len : ∀ (xs M : List (List Nat)), (xs.foldl insD M).length ≤ M.length + xs.length ∧ ((xs.foldl insD M).length = M.length + xs.length ↔ xs.Nodup ∧ ∀ x ∈ xs, x ∉ M)
  | [], M => by simp
  | x :: xs, M => by
    rw [List.foldl_cons, List.nodup_cons, List.length_cons]
    by_cases c : x ∈ M
    · have e : insD M x = M := by unfold insD; rw [if_pos c]
      obtain ⟨h1, h2⟩ := insD_len xs M
      rw [e]
      refine ⟨by omega, fun z => by omega, fun z => absurd c (z.2 x List.mem_cons_self)⟩
    · have e : insD M x = M ++ [x] := by unfold insD; rw [if_neg c]
      obtain ⟨h1, h2⟩ := insD_len xs (M ++ [x])
      rw [List.length_append, List.length_singleton] at h1 h2
      rw [e]
      refine ⟨by omega, ?_⟩
      rw [show M.length + (xs.length + 1) = M.length + 1 + xs.length by omega, h2]
      constructor
      · rintro ⟨n1, n2⟩
        refine ⟨⟨fun z => ?_, n1⟩, fun y hy => ?_⟩
        · exact n2 x z (by simp)
        · rcases List.mem_cons.mp hy with z | z
          · rw [z]; exact c
          · exact fun w => n2 y z (List.mem_append_left _ w)
      · rintro ⟨⟨n1, n2⟩, n3⟩
        refine ⟨n2, fun y hy w => ?_⟩
        rcases List.mem_append.mp w with w | w
        · exact n3 y (List.mem_cons_of_mem _ hy) w
        · rw [List.mem_singleton] at w; subst w; exact n1 hy
def unD (M : List (List Nat)) : D := .dcT true (M.map kK) (M.map fun _ => .bl true)
theorem repl_bl : ∀ {M : List (List Nat)} {x : List Nat}, replK (M.map kK) (M.map fun _ => D.bl true) (kK x) (.bl true) = M.map fun _ => D.bl true
  | [], x => rfl
  | m :: M, x => by
    rw [List.map_cons, List.map_cons]
    unfold replK
    rw [repl_bl]
    congr 1
    split <;> rfl
theorem un_put {M : List (List Nat)} {x : List Nat} (hl : M.length < sizeLine) : putD (unD M) (kD x) (.bl true) = some (unD (insD M x)) := by
  have e : putD (unD M) (kD x) (.bl true) = match keysOf (x.map natD) with
    | some c => if (M.map fun _ => D.bl true).length < sizeLine then some (.dcT true (putKs (M.map kK) (M.map fun _ => D.bl true) c (.bl true)).1 (putKs (M.map kK) (M.map fun _ => D.bl true) c (.bl true)).2) else none
    | none => none := rfl
  rw [e, keysOf_kK]
  dsimp only
  rw [if_pos (by rw [List.length_map]; exact hl)]
  unfold putKs insD
  have mm : kK x ∈ M.map kK ↔ x ∈ M := by
    rw [List.mem_map]
    exact ⟨fun ⟨y, hy, e⟩ => kK_inj.mp e ▸ hy, fun h => ⟨x, h, rfl⟩⟩
  by_cases c : x ∈ M
  · rw [if_pos (mm.mpr c), if_pos c, repl_bl]; rfl
  · rw [if_neg fun z => c (mm.mp z), if_neg c]
    unfold unD
    rw [List.map_append, List.map_append]; rfl
theorem un_len {M : List (List Nat)} : gLenT [unD M] = some (.int (M.length : Int)) := by
  show some (D.int _) = _
  rw [List.length_map]
theorem istab_spec (H : House h L) {T : List Ent} (F : Form h L T) (n1 : 1 ≤ T.length) (n600 : T.length ≤ 600) {b : Bool} (hb : b = true ↔ (T.map (·.1)).Nodup ∧ ∀ k, k < L.length → Apt h L T k) : ∃ o, m_is_table_of [houD false h L, .lst false (T.map entT)] = .rt (.bl b) o := by
  have l6 := H.l6
  have hix : gIx (houD false h L) (.int 1) = some (.lst false (L.map (entD false))) := hou_ix1
  have ll : gLen [.lst false (L.map (entD false))] = some (.int (L.length : Int)) := by rw [len_l, List.length_map]
  have fe : frzs (T.map entT) = T.map entT := frzs_mapf fun _ _ => frz_entT
  have fTd : frz (D.lst false (T.map entT)) = .lst false (T.map entT) := by rw [frz_lst, fe]
  have iTd : itemsL (D.lst false (T.map entT)) = some (T.map entT) := by rw [items_l, fe]
  have il : gIsi [D.lst false (T.map entT), .gv (.ty "list")] = some (.bl true) := isi_lst_list
  have lT : gLen [D.lst false (T.map entT)] = some (.int (T.length : Int)) := by rw [len_l, List.length_map]
  have c1 : (1 : Int) ≤ (T.length : Int) := by omega
  have c2 : (T.length : Int) ≤ 600 := by omega
  have lc1 : fLc (fIt itemsL (fVar 1)) (gN 3) fYes (fCall 3 m_is_entry_tables (fCons (fVar 0) (fCons (fVar 3) (fCons (fI (vOpN gLen (vCons (vVar 1) vNil))) fNil)))) [3] [some (houD false h L), some (.lst false (T.map entT)), none, none, none]
      = .ok (.lst true (T.map fun _ => .bl true)) [some (houD false h L), some (.lst false (T.map entT)), none, none, none] := by
    have fh : frz (houD false h L) = houD false h L := by simp
    have es := fun (e : Ent) (he : e ∈ T) => ent_spec H (F.ml e he) (F.fl e he) (F.flt e he)
    generalize D.lst false (T.map entT) = TD at *
    generalize houD false h L = HH at *
    refine lc_all (g := entT) (by simp [fTd, iTd]) (by simp) (by unfold sizeLine; omega) fun e he => ?_
    have es := es e he
    have fE := frz_entT (e := e)
    generalize entT e = EE at *
    refine ⟨[some HH, some TD, none, some EE, none], by simp, [some HH, some TD, none, some EE, none], ?_, by simp⟩
    simp [-len_l, lT, es, fh, fE]
  have ga1 := all_map_bl (o := true) (fun _ => true) T
  rw [show (T.all fun _ => true) = true by simp] at ga1
  obtain ⟨ρ', lp, M, v3, rfl, eM⟩ := loopM (step := stepS (gN 3) l_is_table_of_1) (f := entT) (xs := T) (ρ := [some (houD false h L), some (.lst false (T.map entT)), some (unD []), none, none])
    (fun j ρ => ∃ (M : List (List Nat)) (v3 : Option D), ρ = [some (houD false h L), some (.lst false (T.map entT)), some (unD M), v3, none] ∧ M = ((T.take j).map (·.1)).foldl insD [])
    ⟨[], none, rfl, by simp⟩ (by
      rintro j e ρ hj ⟨M, v3, rfl, eM⟩
      have hjl := (List.getElem?_eq_some_iff.mp hj).1
      have hM : M.length < sizeLine := by
        have := (insD_len ((T.take j).map (·.1)) []).1
        rw [← eM, List.length_map, List.length_take] at this
        simp at this
        unfold sizeLine; omega
      have pt := un_put (x := e.1) hM
      have e0 := ent_0 (e := e)
      have iK := imm_kD (x := e.1)
      refine ⟨[some (houD false h L), some (.lst false (T.map entT)), some (unD (insD M e.1)), some (entT e), none], ?_, insD M e.1, _, rfl, ?_⟩
      · rw [ap_step]; unfold l_is_table_of_1
        generalize unD (insD M e.1) = U2 at *
        generalize unD M = U1 at *
        generalize kD e.1 = KE at *
        generalize entT e = EE at *
        generalize D.lst false (T.map entT) = TD at *
        generalize houD false h L = HH at *
        simp [e0, iK, putR, pt]
      · rw [List.take_succ, hj]
        show _ = (((T.take j) ++ [e]).map (·.1)).foldl insD []
        rw [List.map_append, List.foldl_append, ← eM]; rfl)
  rw [List.take_length] at eM
  have iM := insD_len (T.map (·.1)) []
  rw [← eM, List.length_map, List.length_nil, Nat.zero_add] at iM
  have gl := un_len (M := M)
  have nd : M.length = T.length ↔ (T.map (·.1)).Nodup := by
    rw [iM.2]
    exact ⟨fun z => z.1, fun z => ⟨z, by simp⟩⟩
  by_cases c : M.length = T.length
  rotate_left
  · have : b = false := by
      cases b with
      | false => rfl
      | true => exact (c (nd.mpr (hb.mp rfl).1)).elim
    subst this
    have lt : gLt (.int (M.length : Int)) (.int (T.length : Int)) = some (.bl true) := by rw [lt_ii, decide_eq_true (by omega)]
    have u0 : D.dcT true [] [] = unD [] := rfl
    refine ⟨[none, none], ?_⟩
    unfold m_is_table_of; rw [semOf_ap]; unfold b_is_table_of
    generalize T.map entT = TX at *
    generalize unD M = UM at *
    generalize unD [] = U0 at *
    generalize (T.map fun _ => D.bl true) = TB at *
    generalize houD false h L = HH at *
    generalize D.lst false TX = TD at *
    simp [-len_l, -lt_ii, -all_l, il, lT, c1, c2, lc1, ga1, u0, fTd, iTd, lp, gl, lt]
  · have lt : gLt (.int (M.length : Int)) (.int (T.length : Int)) = some (.bl false) := by rw [lt_ii, decide_eq_false (by omega)]
    have u0 : D.dcT true [] [] = unD [] := rfl
    classical
    have lc2 : ∀ v3, fLc (fItN rng1 (fCons (fI (vOpN gLen (vCons (vOp2 gIx (vVar 0) (vK (.int 1))) vNil))) fNil)) (gN 4) fYes (fCall 3 m_is_done_apart (fCons (fVar 0) (fCons (fVar 1) (fCons (fVar 4) fNil)))) [4] [some (houD false h L), some (.lst false (T.map entT)), some (unD M), v3, none]
        = .ok (.lst true ((List.range L.length).map fun k => .bl (decide (Apt h L T k)))) [some (houD false h L), some (.lst false (T.map entT)), some (unD M), v3, none] := fun v3 => by
      have rr := rng1_n (n := L.length) (by omega)
      have fh : frz (houD false h L) = houD false h L := by simp
      have ds := fun (k : Nat) (hk : k < L.length) => da_spec H F (by omega) hk (b := decide (Apt h L T k)) decide_eq_true_iff
      generalize D.lst false (L.map (entD false)) = LE at *
      generalize D.lst false (T.map entT) = TD at *
      generalize unD M = UM at *
      generalize houD false h L = HH at *
      refine lc_all (g := fun k : Nat => .int (k : Int)) (e := fun k => .bl (decide (Apt h L T k))) (by simp [-len_l, hix, ll, rr]) (by simp) (by rw [List.length_range]; unfold sizeLine; omega) fun k hk => ?_
      obtain ⟨o, ds⟩ := ds k (List.mem_range.mp hk)
      refine ⟨[some HH, some TD, some UM, v3, some (.int (k : Int))], by simp, [some HH, some TD, some UM, v3, some (.int (k : Int))], ?_, by simp⟩
      simp [ds, fh, fTd]
    have ga2 := all_map_bl (o := true) (fun k => decide (Apt h L T k)) (List.range L.length)
    have eb : (List.range L.length).all (fun k => decide (Apt h L T k)) = b := by
      rw [Bool.eq_iff_iff, hb, List.all_eq_true]
      constructor
      · exact fun z => ⟨nd.mp c, fun k hk => of_decide_eq_true (z k (List.mem_range.mpr hk))⟩
      · exact fun z k hk => decide_eq_true (z.2 k (List.mem_range.mp hk))
    rw [eb] at ga2
    refine ⟨[none, none], ?_⟩
    unfold m_is_table_of; rw [semOf_ap]; unfold b_is_table_of
    generalize T.map entT = TX at *
    generalize unD M = UM at *
    generalize unD [] = U0 at *
    generalize (T.map fun _ => D.bl true) = TB at *
    generalize (List.range L.length).map (fun k => D.bl (decide (Apt h L T k))) = TC at *
    generalize houD false h L = HH at *
    generalize D.lst false TX = TD at *
    simp [-len_l, -lt_ii, -all_l, il, lT, c1, c2, lc1, ga1, u0, fTd, iTd, lp, gl, lt, lc2, ga2]
theorem Tab.apt {T : List Ent} (t : Tab h L T) : (T.map (·.1)).Nodup ∧ ∀ k, k < L.length → Apt h L T k := ⟨t.nd, fun k hk => ⟨fun e he i hi hn => t.stay e he k hk i hi hn, fun e he e' he' hkey => t.same e he e' he' k hk hkey⟩⟩
variable {mv : List (List Nat)} {gd : List Nat}
def folT (T : List Ent) (e k : Nat) : Nat := (T.getD e ([], false, [])).2.2.getD k 0
def okT (T : List Ent) (e : Nat) : Bool := (T.getD e ([], false, [])).2.1
def stT (mv : List (List Nat)) (T : List Ent) (p : Nat × Nat) (k : Nat) : Nat × Nat := ((mv.getD p.1 []).getD k 0, folT T p.2 k)
def diT (gd : List Nat) (T : List Ent) (p : Nat × Nat) : Bool := decide (p.1 ∈ gd) != okT T p.2
variable {T : List Ent}
theorem entT_at {p : Nat} (hp : p < T.length) : gIx (.lst false (T.map entT)) (.int (p : Int)) = some (entT (T.getD p ([], false, []))) := by
  rw [ix_l, at_nat, List.getElem?_map, List.getElem?_eq_getElem hp, List.getD_eq_getElem?_getD, List.getElem?_eq_getElem hp]; rfl
theorem ent_1 {e : Ent} : gIx (entT e) (.int 1) = some (.bl e.2.1) := by unfold entT; rw [ix_t, at_1]; rfl
theorem ent_2 {e : Ent} : gIx (entT e) (.int 2) = some (kD e.2.2) := by unfold entT; rw [ix_t, at_2]; rfl
theorem mem_getD {p : Nat} (hp : p < T.length) : T.getD p ([], false, []) ∈ T := by
  rw [List.getD_eq_getElem?_getD, List.getElem?_eq_getElem hp]; exact List.getElem_mem hp
theorem stT_lt (M0 : Mach L mv gd) (F : Form h L T) {p : Nat × Nat} (h1 : p.1 < mv.length) (h2 : p.2 < T.length) {k : Nat} (hk : k < L.length) : (stT mv T p k).1 < mv.length ∧ (stT mv T p k).2 < T.length := by
  refine ⟨?_, ?_⟩
  · have hl := M0.len (mv.getD p.1 []) (by rw [List.getD_eq_getElem?_getD, List.getElem?_eq_getElem h1]; exact List.getElem_mem h1)
    have := M0.lt (mv.getD p.1 []) (by rw [List.getD_eq_getElem?_getD, List.getElem?_eq_getElem h1]; exact List.getElem_mem h1)
    show (mv.getD p.1 []).getD k 0 < _
    refine this _ ?_
    rw [List.getD_eq_getElem?_getD (l := mv.getD p.1 []), List.getElem?_eq_getElem (by omega)]
    exact List.getElem_mem _
  · have hm := mem_getD h2
    have hl := F.fl _ hm
    refine F.flt _ hm _ ?_
    show (T.getD p.2 ([], false, [])).2.2.getD k 0 ∈ _
    rw [List.getD_eq_getElem?_getD (l := (T.getD p.2 ([], false, [])).2.2), List.getElem?_eq_getElem (by omega)]
    exact List.getElem_mem _
theorem goT_lt (M0 : Mach L mv gd) (F : Form h L T) : ∀ (w : List Nat) (p : Nat × Nat), InR L.length w → p.1 < mv.length → p.2 < T.length → (goS (stT mv T) p w).1 < mv.length ∧ (goS (stT mv T) p w).2 < T.length
  | [], p, _, h1, h2 => ⟨h1, h2⟩
  | k :: w, p, hw, h1, h2 => by
    obtain ⟨a, b⟩ := stT_lt M0 F h1 h2 (hw k List.mem_cons_self)
    exact goT_lt M0 F w _ (fun x hx => hw x (List.mem_cons_of_mem _ hx)) a b
theorem BfT.size (M0 : Mach L mv gd) (F : Form h L T) (n600 : T.length ≤ 600) {p0 : Nat × Nat} (h1 : p0.1 < mv.length) (h2 : p0.2 < T.length) {E : List En} {n kc : Nat} (B : Bf (stT mv T) L.length p0 E n kc) : (∀ e ∈ E, e.1.1 < mv.length ∧ e.1.2 < T.length) ∧ E.length ≤ 18000 := by
  have hb : ∀ e ∈ E, e.1.1 < mv.length ∧ e.1.2 < T.length := fun e he => by
    obtain ⟨a, b⟩ := B.lead e he
    rw [← a]; exact goT_lt M0 F e.2 p0 b h1 h2
  refine ⟨hb, ?_⟩
  have := nodup_sub_len B.nd (ys := (List.range mv.length).flatMap fun i => (List.range T.length).map fun j => (i, j)) fun p hp => by
    obtain ⟨e, he, rfl⟩ := List.mem_map.mp hp
    obtain ⟨a, b⟩ := hb e he
    exact List.mem_flatMap.mpr ⟨e.1.1, List.mem_range.mpr a, List.mem_map.mpr ⟨e.1.2, List.mem_range.mpr b, rfl⟩⟩
  have len : ∀ m : Nat, ((List.range m).flatMap fun i => (List.range T.length).map fun j => (i, j)).length = m * T.length := by
    intro m
    induction m with
    | zero => simp
    | succ m ih => rw [List.range_succ, List.flatMap_append, List.length_append, ih, Nat.succ_mul]; simp
  rw [len, List.length_map] at this
  have n30 := M0.n30
  have h3 : mv.length * T.length ≤ 30 * 600 := Nat.mul_le_mul n30 n600
  omega
/-- the words are no longer than the places -/
theorem Bf.words {α : Type} {f : α → Nat → α} {m : Nat} {p0 : α} {E : List (α × List Nat)} {n kc : Nat} (B : Bf f m p0 E n kc) {N : Nat} (hN : E.length ≤ N) : ∀ e ∈ E, e.2.length ≤ N := by
  have key : ∀ (i : Nat) (e : α × List Nat), E[i]? = some e → e.2.length ≤ i := by
    intro i
    induction i using Nat.strongRecOn with
    | _ i ih =>
      intro e he
      have hil := (List.getElem?_eq_some_iff.mp he).1
      rcases B.par e (List.mem_of_getElem? he) with z | ⟨j, e', k, hj, hw, _⟩
      · rw [z]; simp
      · by_cases c : j < i
        · have := ih j c e' hj
          rw [hw]; simp; omega
        · exfalso
          have hle : leW e.2 e'.2 := by
            rcases Nat.lt_or_eq_of_le (Nat.le_of_not_lt c) with z | z
            · exact pw_get B.srt z he hj
            · subst z; rw [he] at hj; cases hj; exact leW_refl _
          rw [hw] at hle
          rcases hle with z | ⟨z, _⟩ <;> (rw [List.length_append, List.length_singleton] at z; omega)
  intro e he
  obtain ⟨i, hi⟩ := List.getElem?_of_mem he
  have := key i e hi
  have := (List.getElem?_eq_some_iff.mp hi).1
  omega
theorem diT_eq (p : Nat × Nat) : gNe (.bl (decide (p.1 ∈ gd))) (.bl (okT T p.2)) = some (.bl (diT gd T p)) := by
  unfold diT
  cases decide (p.1 ∈ gd) <;> cases okT T p.2 <;> rfl
theorem mv_stT (M0 : Mach L mv gd) {p : Nat × Nat} (h1 : p.1 < mv.length) {k : Nat} (hk : k < L.length) : gIx (ownD false (mv.getD p.1 [])) (.int (k : Int)) = some (.int ((stT mv T p k).1 : Int)) := by
  have hl := M0.len (mv.getD p.1 []) (by rw [List.getD_eq_getElem?_getD, List.getElem?_eq_getElem h1]; exact List.getElem_mem h1)
  exact own_ix (by omega)
theorem tb_stT (F : Form h L T) {p : Nat × Nat} (h2 : p.2 < T.length) {k : Nat} (hk : k < L.length) : gIx (kD (T.getD p.2 ([], false, [])).2.2) (.int (k : Int)) = some (.int ((stT mv T p k).2 : Int)) := by
  have hl := F.fl _ (mem_getD h2)
  exact kD_at (by omega)
/-- one letter, by the program -/
theorem ra1 (H : House h L) (M0 : Mach L mv gd) (F : Form h L T) (n600 : T.length ≤ 600) {p0 : Nat × Nat} (q1 : p0.1 < mv.length) (q2 : p0.2 < T.length) {E : List En} {n k : Nat} (B : Bf (stT mv T) L.length p0 E n k) {en : En} (hn : E[n]? = some en) (hk : k < L.length) {v0 v1 v4 v10 v11 v12 : Option D} :
    ∃ (E' : List En) (v12' : Option D), stepS (gT 2 (gsC (gN 10) (gsC (gN 11) gsN))) l_row_apart_1 (.tup [.int (k : Int), entD false L[k]]) [v0, v1, some (.lst false (T.map entT)), some (.lst false (mv.map (ownD false))), v4, some (seD E), some (foD L (E.drop (n + 1))), some (.int (en.1.1 : Int)), some (.int (en.1.2 : Int)), some (.str (rowS (wrd L en.2))), v10, v11, v12]
      = .nx [v0, v1, some (.lst false (T.map entT)), some (.lst false (mv.map (ownD false))), v4, some (seD E'), some (foD L (E'.drop (n + 1))), some (.int (en.1.1 : Int)), some (.int (en.1.2 : Int)), some (.str (rowS (wrd L en.2))), some (.int (k : Int)), some (entD false L[k]), v12'] ∧
      Bf (stT mv T) L.length p0 E' n (k + 1) ∧ E'[n]? = some en ∧ E.length ≤ E'.length ∧ E'.take E.length = E := by
  have hnl : n < E.length := (List.getElem?_eq_some_iff.mp hn).1
  obtain ⟨hb, hE⟩ := BfT.size M0 F n600 q1 q2 B
  obtain ⟨b1, b2⟩ := hb en (List.mem_of_getElem? hn)
  have hw := B.words hE en (List.mem_of_getElem? hn)
  obtain ⟨p, w⟩ := en
  simp only at b1 b2 hw
  have r1 := mv_at (mv := mv) (o := false) b1
  have i1 := mv_stT (T := T) M0 b1 hk
  have r2 := entT_at b2
  have r3 := ent_2 (e := T.getD p.2 ([], false, []))
  have i2 := tb_stT (mv := mv) F b2 hk
  have ni := se_nin (E := E) (p := stT mv T p k)
  have hs2 : 2 ≤ sizeLine := by decide
  have hs3 : 3 ≤ sizeLine := by decide
  have sg : gIx (entD false L[k]) (.int 0) = some (sgD L[k].1) := by unfold entD; rw [ix_t, at_0]; rfl
  by_cases c : stT mv T p k ∈ E.map (·.1)
  · rw [decide_eq_true c] at ni
    refine ⟨E, some (.tup [.int ((stT mv T p k).1 : Int), .int ((stT mv T p k).2 : Int)]), ?_, B.old hn c, hn, Nat.le_refl _, by simp⟩
    rw [ap_step]; unfold l_row_apart_1
    generalize entD false L[k] = EN at *
    generalize D.lst false (T.map entT) = TD at *
    generalize entT (T.getD p.2 ([], false, [])) = TE' at *
    generalize kD (T.getD p.2 ([], false, [])).2.2 = KF at *
    generalize ownD false (mv.getD p.1 []) = OM at *
    simp [-ix_l, r1, r2, r3, i1, i2, ni, hs2]
  · rw [decide_eq_false c] at ni
    have hE' : E.length < sizeLine := by unfold sizeLine; omega
    have pt := se_put (w := w ++ [k]) hE' c
    have ad := add_rows (A := wrd L w) (B := [L[k].1]) (by rw [wrd_len]; simp; omega)
    rw [← wrd_snoc hk] at ad
    have ad : gAdd (.str (rowS (wrd L w))) (sgD L[k].1) = _ := ad
    refine ⟨E ++ [(stT mv T p k, w ++ [k])], some (.tup [.int ((stT mv T p k).1 : Int), .int ((stT mv T p k).2 : Int)]), ?_, B.new hn hk c, by rw [List.getElem?_append_left hnl]; exact hn, by simp, by simp⟩
    have dr : (E ++ [(stT mv T p k, w ++ [k])]).drop (n + 1) = E.drop (n + 1) ++ [(stT mv T p k, w ++ [k])] := by rw [List.drop_append_of_le_length (by omega)]
    have a1 : ∀ r : RS, isLs (some (some (foD L (E.drop (n + 1))))) r = r := fun _ => rfl
    have a2 : ∀ (d : D) (ρ : Ev), d = enD L (stT mv T p k, w ++ [k]) → appS (some (some (foD L (E.drop (n + 1))))) 6 d ρ = .nx (ρ.set 6 (some (foD L (E.drop (n + 1) ++ [(stT mv T p k, w ++ [k])])))) := fun d ρ e => by
      subst e
      unfold foD appS
      dsimp only
      rw [if_pos (by rw [List.length_map, List.length_drop]; omega)]
      simp
    have a3 := fun ρ => a2 (.tup [.int ((stT mv T p k).1 : Int), .int ((stT mv T p k).2 : Int), .str (rowS (wrd L (w ++ [k])))]) ρ rfl
    rw [ap_step, dr]; unfold l_row_apart_1
    generalize entD false L[k] = EN at *
    generalize D.lst false (T.map entT) = TD at *
    generalize entT (T.getD p.2 ([], false, [])) = TE' at *
    generalize kD (T.getD p.2 ([], false, [])).2.2 = KF at *
    generalize ownD false (mv.getD p.1 []) = OM at *
    simp [-ix_l, -appS_s, r1, r2, r3, i1, i2, ni, hs2, hs3, putR, pt, ad, a1, a3, sg]
variable {mv : List (List Nat)} {gd : List Nat} {T : List Ent}
theorem pop_head {ρ : Ev} {i : Nat} {d : D} {xs : List D} (h : ρ[i]? = some (some (.lst true (d :: xs)))) (id : isImm d = true) (hl : xs.length < sizeLine) : fPopA i (fCons (fK (.int 0)) fNil) ρ = .ok d (ρ.set i (some (.lst true xs))) := by
  have e1 : (fCons (fK (.int 0)) fNil : Ev → Hap.R (List D)) ρ = .ok [.int 0] ρ := rfl
  have e2 : ixN (d :: xs).length 0 = some 0 := by unfold ixN; simp
  unfold fPopA
  simp only [h, e1, Hap.R.bind, int1, isL1, e2, natR]
  show popD (d :: xs) i 0 ρ = _
  unfold popD
  rw [List.getElem?_cons_zero]
  dsimp only
  rw [if_pos ⟨id, by rw [List.length_cons]; omega⟩]; rfl
theorem enum_ents : ∀ (xs : List (Nat × List Nat)) (i : Nat), enumD i (xs.map (entD false)) = (List.range xs.length).map fun k => .tup [.int ((i + k : Nat) : Int), entD false (xs.getD k (0, []))] := fun xs i => enum_map (f := entD false) (0, []) xs i
theorem ra_spec (H : House h L) (M0 : Mach L mv gd) (Tb : Tab h L T) : ∃ a o, ToldS (stT mv T) (diT gd T) L.length (0, 0) a ∧ m_row_apart [houD false h L, macD false mv gd, .lst false (T.map entT)] = .rt (rowO L a) o := by
  have l6 := H.l6
  have F := Tb.form
  have n600 := Tb.n600
  have q1 : ((0, 0) : Nat × Nat).1 < mv.length := M0.n1
  have q2 : ((0, 0) : Nat × Nat).2 < T.length := Tb.n1
  have hix : gIx (houD false h L) (.int 1) = some (.lst false (L.map (entD false))) := hou_ix1
  have ie : isImm (.lst false (L.map (entD false))) = true := by rw [imm_lstI]; exact imms_map fun _ _ => imm_ent
  have en : enumL [.lst false (L.map (entD false))] = some ((List.range L.length).map fun k : Nat => D.tup [.int ((0 + k : Nat) : Int), entD false (L.getD k (0, []))]) := by
    have : enumL [.lst false (L.map (entD false))] = some (enumD 0 (L.map (entD false))) := by
      unfold enumL
      dsimp only
      rw [items_l, frzs_mapf (f := entD false) (g := entD false) fun _ _ => by unfold entD; simp [frz_own], Option.map_some]
    rw [this, enum_ents]
  have wl := while_goes (c := fTv (vOp2 gGt (vOpN gLen (vCons (vVar 6) vNil)) (vK (.int 0)))) (g := l_row_apart_2)
    (fun x ρ => ∃ (E : List En) (n : Nat) (v7 v8 v9 v10 v11 v12 : Option D), ρ = [some (houD false h L), some (macD false mv gd), some (.lst false (T.map entT)), some (.lst false (mv.map (ownD false))), some (ownD false gd), some (seD E), some (foD L (E.drop n)), v7, v8, v9, v10, v11, v12] ∧
      x = 18001 - n ∧ n ≤ E.length ∧ Bf (stT mv T) L.length (0, 0) E n 0 ∧ NoD (diT gd T) E n)
    (fun ρ => (∃ E : List En, Bf (stT mv T) L.length (0, 0) E E.length 0 ∧ NoD (diT gd T) E E.length) ∧ ρ.length = 13)
    (fun d ρ => (∃ W, d = .str (rowS (wrd L W)) ∧ BestS (stT mv T) (diT gd T) L.length (0, 0) W) ∧ ρ.length = 13) (by
      rintro x ρ ⟨E, n, v7, v8, v9, v10, v11, v12, rfl, hx, hn, B, N⟩
      obtain ⟨hb, hE⟩ := BfT.size M0 F n600 q1 q2 B
      have gl : gLen [foD L (E.drop n)] = some (.int ((E.length - n : Nat) : Int)) := by unfold foD; rw [len_l, List.length_map, List.length_drop]
      by_cases c : n < E.length
      · have gg : gGt (.int ((E.length - n : Nat) : Int)) (.int 0) = some (.bl true) := by rw [gt_ii, decide_eq_true (by omega)]
        obtain ⟨en', e0⟩ : ∃ en, E[n]? = some en := ⟨_, List.getElem?_eq_getElem c⟩
        obtain ⟨b1, b2⟩ := hb en' (List.mem_of_getElem? e0)
        have dr : E.drop n = en' :: E.drop (n + 1) := by
          rw [List.drop_eq_getElem_cons c]
          rw [List.getElem?_eq_getElem c] at e0; cases e0; rfl
        have fd : foD L (E.drop n) = .lst true (enD L en' :: (E.drop (n + 1)).map (enD L)) := by rw [dr]; rfl
        have imE : isImm (enD L en') = true := rfl
        have pp : ∀ ρ : Ev, ρ[6]? = some (some (foD L (E.drop n))) → fPopA 6 (fCons (fK (.int 0)) fNil) ρ = .ok (enD L en') (ρ.set 6 (some (foD L (E.drop (n + 1))))) := fun ρ h => by
          rw [fd] at h
          exact pop_head h imE (by rw [List.length_map, List.length_drop]; unfold sizeLine; omega)
        have gt : ∀ ρ : Ev, gT 3 (gsC (gN 7) (gsC (gN 8) (gsC (gN 9) gsN))) (enD L en') ρ = some (((ρ.set 7 (some (.int (en'.1.1 : Int)))).set 8 (some (.int (en'.1.2 : Int)))).set 9 (some (.str (rowS (wrd L en'.2))))) := fun ρ => by
          unfold enD; simp
        have g1 := gd_in (gd := gd) (y := en'.1.1)
        have g2 := entT_at b2
        have g3 := ent_1 (e := T.getD en'.1.2 ([], false, []))
        have gd' := diT_eq (gd := gd) (T := T) en'.1
        have g3 : gIx (entT (T.getD en'.1.2 ([], false, []))) (.int 1) = some (.bl (okT T en'.1.2)) := g3
        have tv : fTv (vOp2 gGt (vOpN gLen (vCons (vVar 6) vNil)) (vK (.int 0))) [some (houD false h L), some (macD false mv gd), some (.lst false (T.map entT)), some (.lst false (mv.map (ownD false))), some (ownD false gd), some (seD E), some (foD L (E.drop n)), v7, v8, v9, v10, v11, v12] = .ok true [some (houD false h L), some (macD false mv gd), some (.lst false (T.map entT)), some (.lst false (mv.map (ownD false))), some (ownD false gd), some (seD E), some (foD L (E.drop n)), v7, v8, v9, v10, v11, v12] := tv_of (v2_of (vN1_of rfl gl) rfl gg)
        refine .inr ⟨_, tv, ?_⟩
        have st1 : fAsg (fPopA 6 (fCons (fK (.int 0)) fNil)) (gT 3 (gsC (gN 7) (gsC (gN 8) (gsC (gN 9) gsN)))) [some (houD false h L), some (macD false mv gd), some (.lst false (T.map entT)), some (.lst false (mv.map (ownD false))), some (ownD false gd), some (seD E), some (foD L (E.drop n)), v7, v8, v9, v10, v11, v12] = .nx [some (houD false h L), some (macD false mv gd), some (.lst false (T.map entT)), some (.lst false (mv.map (ownD false))), some (ownD false gd), some (seD E), some (foD L (E.drop (n + 1))), some (.int (en'.1.1 : Int)), some (.int (en'.1.2 : Int)), some (.str (rowS (wrd L en'.2))), v10, v11, v12] := by
          rw [ap_asg, pp _ rfl, rsof_ok, gt, tgR_s]; rfl
        unfold l_row_apart_2
        rw [ap_seq, st1, seq_nx]
        cases hdf : diT gd T en'.1 with
        | true =>
          rw [hdf] at gd'
          refine .inr ⟨.str (rowS (wrd L en'.2)), [some (houD false h L), some (macD false mv gd), some (.lst false (T.map entT)), some (.lst false (mv.map (ownD false))), some (ownD false gd), some (seD E), some (foD L (E.drop (n + 1))), some (.int (en'.1.1 : Int)), some (.int (en'.1.2 : Int)), some (.str (rowS (wrd L en'.2))), v10, v11, v12], ?_, ⟨en'.2, rfl, B.found N e0 hdf⟩, rfl⟩
          generalize D.lst false (T.map entT) = TD at *
          generalize entT (T.getD en'.1.2 ([], false, [])) = TE' at *
          generalize okT T en'.1.2 = ok at *
          simp [-ix_l, -ne_bb, g1, g2, g3, gd']
        | false =>
          rw [hdf] at gd'
          obtain ⟨ρ', lp, E', v10', v11', v12', rfl, B', e0', k1⟩ := loopM (step := stepS (gT 2 (gsC (gN 10) (gsC (gN 11) gsN))) l_row_apart_1) (f := fun k => D.tup [.int ((0 + k : Nat) : Int), entD false (L.getD k (0, []))]) (xs := List.range L.length) (ρ := [some (houD false h L), some (macD false mv gd), some (.lst false (T.map entT)), some (.lst false (mv.map (ownD false))), some (ownD false gd), some (seD E), some (foD L (E.drop (n + 1))), some (.int (en'.1.1 : Int)), some (.int (en'.1.2 : Int)), some (.str (rowS (wrd L en'.2))), v10, v11, v12])
            (fun k ρ => ∃ (E' : List En) (v10 v11 v12 : Option D), ρ = [some (houD false h L), some (macD false mv gd), some (.lst false (T.map entT)), some (.lst false (mv.map (ownD false))), some (ownD false gd), some (seD E'), some (foD L (E'.drop (n + 1))), some (.int (en'.1.1 : Int)), some (.int (en'.1.2 : Int)), some (.str (rowS (wrd L en'.2))), v10, v11, v12] ∧
              Bf (stT mv T) L.length (0, 0) E' n k ∧ E'[n]? = some en' ∧ E.length ≤ E'.length ∧ E'.take E.length = E)
            ⟨E, v10, v11, v12, rfl, B, e0, Nat.le_refl _, by simp⟩ (by
              rintro k x ρ hj ⟨E1, w10, w11, w12, rfl, B1, e1, k1, tk⟩
              have hk : k < L.length := by have := (List.getElem?_eq_some_iff.mp hj).1; simpa using this
              rw [List.getElem?_range hk] at hj; cases hj
              obtain ⟨E2, w12', e, B2, e2, k2, t2⟩ := ra1 H M0 F n600 q1 q2 B1 e1 hk (v0 := some (houD false h L)) (v1 := some (macD false mv gd)) (v4 := some (ownD false gd)) (v10 := w10) (v11 := w11) (v12 := w12)
              have eg : L.getD k (0, []) = L[k] := by rw [List.getD_eq_getElem?_getD, List.getElem?_eq_getElem hk]; rfl
              refine ⟨_, by rw [Nat.zero_add, eg]; exact e, E2, _, _, w12', rfl, B2, e2, by omega, ?_⟩
              have := congrArg (List.take E.length) t2
              rw [List.take_take, Nat.min_eq_left k1] at this
              rw [this, tk])
          obtain ⟨k1, tk⟩ := k1
          rw [List.length_range] at B'
          have N' : NoD (diT gd T) E' (n + 1) := fun i e hi he => by
            have he2 : E[i]? = some e := by
              rw [← tk, List.getElem?_take, if_pos (by omega)]; exact he
            by_cases c2 : i = n
            · subst c2; rw [e0] at he2; cases he2; exact hdf
            · exact N i e (by omega) he2
          refine .inl ⟨_, 18001 - (n + 1), ?_, by omega, E', n + 1, some (.int (en'.1.1 : Int)), some (.int (en'.1.2 : Int)), some (.str (rowS (wrd L en'.2))), v10', v11', v12', rfl, rfl, by omega, B'.next, N'⟩
          have fh : frz (houD false h L) = houD false h L := by simp
          generalize (fun k : Nat => D.tup [.int ((0 + k : Nat) : Int), entD false (L.getD k (0, []))]) = EE at *
          generalize D.lst false (L.map (entD false)) = LE at *
          generalize D.lst false (T.map entT) = TD at *
          generalize entT (T.getD en'.1.2 ([], false, [])) = TE' at *
          generalize okT T en'.1.2 = ok at *
          generalize houD false h L = HH at *
          simp [-ix_l, -ne_bb, g1, g2, g3, gd', hix, ie, en, lp]
      · have : n = E.length := by omega
        subst this
        have gg : gGt (.int ((E.length - E.length : Nat) : Int)) (.int 0) = some (.bl false) := by rw [gt_ii, decide_eq_false (by omega)]
        have tv : fTv (vOp2 gGt (vOpN gLen (vCons (vVar 6) vNil)) (vK (.int 0))) [some (houD false h L), some (macD false mv gd), some (.lst false (T.map entT)), some (.lst false (mv.map (ownD false))), some (ownD false gd), some (seD E), some (foD L (E.drop E.length)), v7, v8, v9, v10, v11, v12] = .ok false [some (houD false h L), some (macD false mv gd), some (.lst false (T.map entT)), some (.lst false (mv.map (ownD false))), some (ownD false gd), some (seD E), some (foD L (E.drop E.length)), v7, v8, v9, v10, v11, v12] := tv_of (v2_of (vN1_of rfl gl) rfl gg)
        exact .inl ⟨_, tv, ⟨E, B, N⟩, rfl⟩) fuel 18001
    [some (houD false h L), some (macD false mv gd), some (.lst false (T.map entT)), some (.lst false (mv.map (ownD false))), some (ownD false gd), some (seD [((0, 0), [])]), some (foD L (List.drop 0 [((0, 0), [])])), none, none, none, none, none, none]
    ⟨[((0, 0), [])], 0, none, none, none, none, none, none, rfl, rfl, Nat.zero_le _, Bf.init, fun i e hi => by omega⟩ (by decide)
  have um : frz (macD false mv gd) = macD false mv gd := frz_mac
  have gt : ∀ ρ : Ev, gT 2 (gsC (gN 3) (gsC (gN 4) gsN)) (macD false mv gd) ρ = some ((ρ.set 3 (some (.lst false (mv.map (ownD false))))).set 4 (some (ownD false gd))) := fun ρ => by
    unfold macD; simp
  have e7 : D.lst true [.tup [.int 0, .int 0, .str (Str.ofString "")]] = foD L (List.drop 0 [((0, 0), [])]) := by
    unfold foD enD; rw [List.drop_zero, List.map_cons, List.map_nil, show wrd L (((0, 0), []) : En).2 = [] from rfl, rowS_nil]; rfl
  have e8 : D.dcT true [[.inl 0, .inl 0]] [.bl true] = seD [((0, 0), [])] := rfl
  have ks : keysT (.tup [.int 0, .int 0]) = some [.inl 0, .inl 0] := rfl
  have hs1 : 1 ≤ sizeLine := by decide
  have hs2 : 2 ≤ sizeLine := by decide
  have hs3 : 3 ≤ sizeLine := by decide
  obtain ⟨ot, it⟩ := istab_spec H F Tb.n1 n600 (b := true) ⟨fun _ => Tb.apt, fun _ => rfl⟩
  have fTd : frz (D.lst false (T.map entT)) = .lst false (T.map entT) := by rw [frz_lst, frzs_mapf (f := entT) (g := entT) fun _ _ => frz_entT]
  have fh : frz (houD false h L) = houD false h L := by simp
  have lkh := look_spec H
  have lkm := lookmac_spec H M0
  rw [List.drop_zero] at wl e7
  rcases wl with ⟨ρ', lp, ⟨E, hB, hN⟩, hl⟩ | ⟨d, ρ', lp, ⟨W, hW, hB⟩, hl⟩
  · refine ⟨none, outsOf [false, false, false] ρ', hB.never hN, ?_⟩
    unfold m_row_apart; rw [semOf_ap]; unfold b_row_apart
    generalize D.lst false (T.map entT) = TD at *
    generalize macD false mv gd = MM at *
    generalize houD false h L = HH at *
    simp [lkh, lkm, fh, um, fTd, it, gt, ks, e7, e8, hs1, hs2, hs3, lp, rowO]
  · refine ⟨some W, outsOf [false, false, false] ρ', hB, ?_⟩
    subst hW
    unfold m_row_apart; rw [semOf_ap]; unfold b_row_apart
    generalize D.lst false (T.map entT) = TD at *
    generalize macD false mv gd = MM at *
    generalize houD false h L = HH at *
    simp [lkh, lkm, fh, um, fTd, it, gt, ks, e7, e8, hs1, hs2, hs3, lp, rowO]
variable {mv : List (List Nat)} {gd : List Nat} {T : List Ent}
def enW (L : List (Nat × List Nat)) (e : En) : D := .tup [.str (rowS (wrd L e.2)), .int (e.1.1 : Int), .int (e.1.2 : Int)]
def loL (L : List (Nat × List Nat)) (E : List En) : D := .lst true (E.map (enW L))
theorem wrd_ok (H : House h L) {w : List Nat} : ∀ r ∈ wrd L w, r < 26 := fun r hr => by
  obtain ⟨k, _, rfl⟩ := List.mem_map.mp hr
  rw [List.getD_eq_getElem?_getD]
  cases e : (L.map (·.1))[k]? with
  | none => show 0 < 26; omega
  | some x =>
    obtain ⟨y, hy, rfl⟩ := List.mem_map.mp (List.mem_of_getElem? e)
    exact H.lt y hy
theorem sh_enW (H : House h L) {e : En} : Sh 60 (enW L e) := sh_tup (n := 59) fun d hd => by
  rcases List.mem_cons.mp hd with rfl | hd
  · exact sh_row (wrd_ok H)
  · rcases List.mem_cons.mp hd with rfl | hd
    · exact sh_int
    · cases List.mem_singleton.mp hd
      exact sh_int
theorem la1 (H : House h L) (M0 : Mach L mv gd) (F : Form h L T) (n600 : T.length ≤ 600) {p0 : Nat × Nat} (q1 : p0.1 < mv.length) (q2 : p0.2 < T.length) {E : List En} {n k N : Nat} (B : Bf (stT mv T) L.length p0 E n k) {en : En} (hn : E[n]? = some en) (hk : k < L.length) (hN : N ≤ E.length) {o : Bool} {v0 v5 v10 v11 v12 v13 : Option D} :
    ∃ (E' : List En) (v11' : Option D), stepS (gN 10) l__law_apart_1 (.int (k : Int)) [v0, some (macD false mv gd), some (.lst false (T.map entT)), some (.lst o (L.map fun e => sgD e.1)), some (seD E), v5, some (.str (rowS (wrd L en.2))), some (.int (en.1.1 : Int)), some (.int (en.1.2 : Int)), some (loL L (E.drop N)), v10, v11, v12, v13]
      = .nx [v0, some (macD false mv gd), some (.lst false (T.map entT)), some (.lst o (L.map fun e => sgD e.1)), some (seD E'), v5, some (.str (rowS (wrd L en.2))), some (.int (en.1.1 : Int)), some (.int (en.1.2 : Int)), some (loL L (E'.drop N)), some (.int (k : Int)), v11', v12, v13] ∧
      Bf (stT mv T) L.length p0 E' n (k + 1) ∧ E'[n]? = some en ∧ N ≤ E'.length ∧ E'.take E.length = E ∧ (∀ i e, E.length ≤ i → E'[i]? = some e → e.2.length = en.2.length + 1) ∧ E.length ≤ E'.length := by
  have hnl : n < E.length := (List.getElem?_eq_some_iff.mp hn).1
  obtain ⟨hb, hE⟩ := BfT.size M0 F n600 q1 q2 B
  obtain ⟨b1, b2⟩ := hb en (List.mem_of_getElem? hn)
  have hw := B.words hE en (List.mem_of_getElem? hn)
  obtain ⟨p, w⟩ := en
  simp only at b1 b2 hw
  have r0 := mac_0 (o := false) (mv := mv) (gd := gd)
  have r1 := mv_at (mv := mv) (o := false) b1
  have i1 := mv_stT (T := T) M0 b1 hk
  have r2 := entT_at b2
  have r3 := ent_2 (e := T.getD p.2 ([], false, []))
  have i2 := tb_stT (mv := mv) F b2 hk
  have ni := se_nin (E := E) (p := stT mv T p k)
  have hs2 : 2 ≤ sizeLine := by decide
  have hs3 : 3 ≤ sizeLine := by decide
  have sg : gIx (.lst o (L.map fun e => sgD e.1)) (.int (k : Int)) = some (sgD L[k].1) := by rw [ix_l, at_nat, List.getElem?_map, List.getElem?_eq_getElem hk]; rfl
  by_cases c : stT mv T p k ∈ E.map (·.1)
  · rw [decide_eq_true c] at ni
    refine ⟨E, some (.tup [.int ((stT mv T p k).1 : Int), .int ((stT mv T p k).2 : Int)]), ?_, B.old hn c, hn, hN, by simp, fun i e hi he => ?_, Nat.le_refl _⟩
    · rw [ap_step]; unfold l__law_apart_1
      generalize D.lst o (L.map fun e => sgD e.1) = LS at *
      generalize D.lst false (T.map entT) = TD at *
      generalize entT (T.getD p.2 ([], false, [])) = TE' at *
      generalize kD (T.getD p.2 ([], false, [])).2.2 = KF at *
      generalize ownD false (mv.getD p.1 []) = OM at *
      generalize macD false mv gd = MM at *
      generalize D.lst false (mv.map (ownD false)) = ML at *
      simp [-ix_l, r0, r1, r2, r3, i1, i2, ni, hs2]
    · have := (List.getElem?_eq_some_iff.mp he).1
      omega
  · rw [decide_eq_false c] at ni
    have hE' : E.length < sizeLine := by unfold sizeLine; omega
    have pt := se_put (w := w ++ [k]) hE' c
    have ad := add_rows (A := wrd L w) (B := [L[k].1]) (by rw [wrd_len]; simp; omega)
    rw [← wrd_snoc hk] at ad
    have ad : gAdd (.str (rowS (wrd L w))) (sgD L[k].1) = _ := ad
    refine ⟨E ++ [(stT mv T p k, w ++ [k])], some (.tup [.int ((stT mv T p k).1 : Int), .int ((stT mv T p k).2 : Int)]), ?_, B.new hn hk c, by rw [List.getElem?_append_left hnl]; exact hn, by rw [List.length_append]; omega, by simp, fun i e hi he => ?_, by simp⟩
    · have dr : (E ++ [(stT mv T p k, w ++ [k])]).drop N = E.drop N ++ [(stT mv T p k, w ++ [k])] := by rw [List.drop_append_of_le_length hN]
      have a1 : ∀ r : RS, isLs (some (some (loL L (E.drop N)))) r = r := fun _ => rfl
      have a2 : ∀ (d : D) (ρ : Ev), d = enW L (stT mv T p k, w ++ [k]) → appS (some (some (loL L (E.drop N)))) 9 d ρ = .nx (ρ.set 9 (some (loL L (E.drop N ++ [(stT mv T p k, w ++ [k])])))) := fun d ρ e => by
        subst e
        unfold loL appS
        dsimp only
        rw [if_pos (by rw [List.length_map, List.length_drop]; omega)]
        simp
      have a3 := fun ρ => a2 (.tup [.str (rowS (wrd L (w ++ [k]))), .int ((stT mv T p k).1 : Int), .int ((stT mv T p k).2 : Int)]) ρ rfl
      rw [ap_step, dr]; unfold l__law_apart_1
      generalize D.lst o (L.map fun e => sgD e.1) = LS at *
      generalize D.lst false (T.map entT) = TD at *
      generalize entT (T.getD p.2 ([], false, [])) = TE' at *
      generalize kD (T.getD p.2 ([], false, [])).2.2 = KF at *
      generalize ownD false (mv.getD p.1 []) = OM at *
      generalize macD false mv gd = MM at *
      generalize D.lst false (mv.map (ownD false)) = ML at *
      simp [-ix_l, -appS_s, r0, r1, r2, r3, i1, i2, ni, hs2, hs3, putR, pt, ad, a1, a3, sg]
    · rw [List.getElem?_append_right hi] at he
      have := (List.getElem?_eq_some_iff.mp he).1
      rw [List.length_singleton] at this
      rw [show i - E.length = 0 by omega] at he
      cases he
      simp
/-- one state of the level -/
theorem la2 (H : House h L) (M0 : Mach L mv gd) (F : Form h L T) (n600 : T.length ≤ 600) {p0 : Nat × Nat} (q1 : p0.1 < mv.length) (q2 : p0.2 < T.length) {E : List En} {n N : Nat} (B : Bf (stT mv T) L.length p0 E n 0) {en : En} (hn : E[n]? = some en) (hN : N ≤ E.length) {o : Bool} {v0 v5 v6 v7 v8 v10 v11 v12 v13 : Option D} :
    ∃ (E' : List En) (v10' v11' : Option D), stepS (gT 3 (gsC (gN 6) (gsC (gN 7) (gsC (gN 8) gsN)))) l__law_apart_2 (enW L en) [v0, some (macD false mv gd), some (.lst false (T.map entT)), some (.lst o (L.map fun e => sgD e.1)), some (seD E), v5, v6, v7, v8, some (loL L (E.drop N)), v10, v11, v12, v13]
      = .nx [v0, some (macD false mv gd), some (.lst false (T.map entT)), some (.lst o (L.map fun e => sgD e.1)), some (seD E'), v5, some (.str (rowS (wrd L en.2))), some (.int (en.1.1 : Int)), some (.int (en.1.2 : Int)), some (loL L (E'.drop N)), v10', v11', v12, v13] ∧
      Bf (stT mv T) L.length p0 E' (n + 1) 0 ∧ N ≤ E'.length ∧ E'.take E.length = E ∧ (∀ i e, E.length ≤ i → E'[i]? = some e → e.2.length = en.2.length + 1) ∧ E.length ≤ E'.length := by
  have l6 := H.l6
  have rr := rng1_n (n := L.length) (by omega)
  have ll : gLen [.lst o (L.map fun e => sgD e.1)] = some (.int (L.length : Int)) := by rw [len_l, List.length_map]
  obtain ⟨ρ', lp, E', w10, w11, rfl, B', e0, k1, tk, lw, k2⟩ := loopR (step := stepS (gN 10) l__law_apart_1) (n := L.length) (ρ := [v0, some (macD false mv gd), some (.lst false (T.map entT)), some (.lst o (L.map fun e => sgD e.1)), some (seD E), v5, some (.str (rowS (wrd L en.2))), some (.int (en.1.1 : Int)), some (.int (en.1.2 : Int)), some (loL L (E.drop N)), v10, v11, v12, v13])
    (fun k ρ => ∃ (E' : List En) (v10 v11 : Option D), ρ = [v0, some (macD false mv gd), some (.lst false (T.map entT)), some (.lst o (L.map fun e => sgD e.1)), some (seD E'), v5, some (.str (rowS (wrd L en.2))), some (.int (en.1.1 : Int)), some (.int (en.1.2 : Int)), some (loL L (E'.drop N)), v10, v11, v12, v13] ∧
      Bf (stT mv T) L.length p0 E' n k ∧ E'[n]? = some en ∧ N ≤ E'.length ∧ E'.take E.length = E ∧ (∀ i e, E.length ≤ i → E'[i]? = some e → e.2.length = en.2.length + 1) ∧ E.length ≤ E'.length)
    ⟨E, v10, v11, rfl, B, hn, hN, by simp, fun i e hi he => (by have := (List.getElem?_eq_some_iff.mp he).1; omega), Nat.le_refl _⟩ (by
      rintro k ρ hk ⟨E1, w10, w11, rfl, B1, e1, k1, tk, lw, k2⟩
      obtain ⟨E2, w11', e, B2, e2, k3, t2, l2, k4⟩ := la1 H M0 F n600 q1 q2 B1 e1 hk k1 (o := o) (v0 := v0) (v5 := v5) (v10 := w10) (v11 := w11) (v12 := v12) (v13 := v13)
      refine ⟨_, e, E2, _, w11', rfl, B2, e2, k3, ?_, fun i e hi he => ?_, by omega⟩
      · have := congrArg (List.take E.length) t2
        rw [List.take_take, Nat.min_eq_left k2] at this
        rw [this, tk]
      · by_cases c : i < E1.length
        · refine lw i e hi ?_
          have : (E2.take E1.length)[i]? = some e := by rw [List.getElem?_take, if_pos c]; exact he
          rw [t2] at this; exact this
        · exact l2 i e (by omega) he)
  refine ⟨E', w10, w11, ?_, B'.next, k1, tk, lw, k2⟩
  have gt : gT 3 (gsC (gN 6) (gsC (gN 7) (gsC (gN 8) gsN))) (enW L en) [v0, some (macD false mv gd), some (.lst false (T.map entT)), some (.lst o (L.map fun e => sgD e.1)), some (seD E), v5, v6, v7, v8, some (loL L (E.drop N)), v10, v11, v12, v13] = some [v0, some (macD false mv gd), some (.lst false (T.map entT)), some (.lst o (L.map fun e => sgD e.1)), some (seD E), v5, some (.str (rowS (wrd L en.2))), some (.int (en.1.1 : Int)), some (.int (en.1.2 : Int)), some (loL L (E.drop N)), v10, v11, v12, v13] := by unfold enW; simp
  rw [ap_step, gt, tgR_s]; unfold l__law_apart_2
  generalize D.lst o (L.map fun e => sgD e.1) = LS at *
  generalize D.lst false (T.map entT) = TD at *
  generalize macD false mv gd = MM at *
  simp [-len_l, ll, rr, lp]
/-- the look at a level -/
theorem la3 {lv : List En} (hb : ∀ e ∈ lv, e.1.2 < T.length) {v0 v3 v4 v5 v6 v7 v8 v9 v10 v11 v12 v13 : Option D} : Goes
    (fun ρ => (∀ e ∈ lv, diT gd T e.1 = false) ∧ ∃ v6 v7 v8, ρ = [v0, some (macD false mv gd), some (.lst false (T.map entT)), v3, v4, v5, v6, v7, v8, v9, v10, v11, v12, v13])
    (fun d ρ => ∃ (j : Nat) (e : En), lv[j]? = some e ∧ diT gd T e.1 = true ∧ (∀ (i : Nat) (e : En), i < j → lv[i]? = some e → diT gd T e.1 = false) ∧ d = .str (rowS (wrd L e.2)) ∧ ρ.length = 14)
    (loopS (stepS (gT 3 (gsC (gN 6) (gsC (gN 7) (gsC (gN 8) gsN)))) l__law_apart_3) (lv.map (enW L)) [v0, some (macD false mv gd), some (.lst false (T.map entT)), v3, v4, v5, v6, v7, v8, v9, v10, v11, v12, v13]) := by
  have key := loopT (step := stepS (gT 3 (gsC (gN 6) (gsC (gN 7) (gsC (gN 8) gsN)))) l__law_apart_3) (f := enW L) (T := fun d ρ => ∃ (j : Nat) (e : En), lv[j]? = some e ∧ diT gd T e.1 = true ∧ (∀ (i : Nat) (e : En), i < j → lv[i]? = some e → diT gd T e.1 = false) ∧ d = .str (rowS (wrd L e.2)) ∧ ρ.length = 14)
    (fun xs ρ => ∃ j : Nat, xs = lv.drop j ∧ (∀ (i : Nat) (e : En), i < j → lv[i]? = some e → diT gd T e.1 = false) ∧ ∃ v6 v7 v8, ρ = [v0, some (macD false mv gd), some (.lst false (T.map entT)), v3, v4, v5, v6, v7, v8, v9, v10, v11, v12, v13])
    lv [v0, some (macD false mv gd), some (.lst false (T.map entT)), v3, v4, v5, v6, v7, v8, v9, v10, v11, v12, v13]
    ⟨0, rfl, fun i e hi => by omega, v6, v7, v8, rfl⟩ (by
      rintro e xs ρ ⟨j, ed, hno, w6, w7, w8, rfl⟩
      have hjl : j < lv.length := by
        rcases Nat.lt_or_ge j lv.length with z | z
        · exact z
        · rw [List.drop_eq_nil_of_le z] at ed; cases ed
      rw [List.drop_eq_getElem_cons hjl] at ed
      obtain ⟨e1, e2⟩ := List.cons.inj ed
      have hj : lv[j]? = some e := by rw [List.getElem?_eq_getElem hjl, ← e1]
      have b2 := hb e (List.mem_of_getElem? hj)
      have r1 := mac_1 (o := false) (mv := mv) (gd := gd)
      have g1 := gd_in (gd := gd) (y := e.1.1)
      have g2 := entT_at b2
      have g3 : gIx (entT (T.getD e.1.2 ([], false, []))) (.int 1) = some (.bl (okT T e.1.2)) := ent_1
      have gd' := diT_eq (gd := gd) (T := T) e.1
      have gt : gT 3 (gsC (gN 6) (gsC (gN 7) (gsC (gN 8) gsN))) (enW L e) [v0, some (macD false mv gd), some (.lst false (T.map entT)), v3, v4, v5, w6, w7, w8, v9, v10, v11, v12, v13] = some [v0, some (macD false mv gd), some (.lst false (T.map entT)), v3, v4, v5, some (.str (rowS (wrd L e.2))), some (.int (e.1.1 : Int)), some (.int (e.1.2 : Int)), v9, v10, v11, v12, v13] := by unfold enW; simp
      rw [ap_step, gt, tgR_s]; unfold l__law_apart_3
      cases hdf : diT gd T e.1 with
      | true =>
        rw [hdf] at gd'
        refine .inr ⟨.str (rowS (wrd L e.2)), [v0, some (macD false mv gd), some (.lst false (T.map entT)), v3, v4, v5, some (.str (rowS (wrd L e.2))), some (.int (e.1.1 : Int)), some (.int (e.1.2 : Int)), v9, v10, v11, v12, v13], ?_, j, e, hj, hdf, hno, rfl, rfl⟩
        generalize D.lst false (T.map entT) = TD at *
        generalize entT (T.getD e.1.2 ([], false, [])) = TE' at *
        generalize okT T e.1.2 = ok at *
        generalize macD false mv gd = MM at *
        simp [-ix_l, -ne_bb, r1, g1, g2, g3, gd']
      | false =>
        rw [hdf] at gd'
        refine .inl ⟨[v0, some (macD false mv gd), some (.lst false (T.map entT)), v3, v4, v5, some (.str (rowS (wrd L e.2))), some (.int (e.1.1 : Int)), some (.int (e.1.2 : Int)), v9, v10, v11, v12, v13], ?_, j + 1, e2, fun i f hi hf => ?_, _, _, _, rfl⟩
        · generalize D.lst false (T.map entT) = TD at *
          generalize entT (T.getD e.1.2 ([], false, [])) = TE' at *
          generalize okT T e.1.2 = ok at *
          generalize macD false mv gd = MM at *
          simp [-ix_l, -ne_bb, r1, g1, g2, g3, gd']
        · by_cases c : i = j
          · subst c; rw [hj] at hf; cases hf; exact hdf
          · exact hno i f (by omega) hf)
  rcases key with ⟨ρ, e, j, ed, hno, w6, w7, w8, rfl⟩ | ⟨d, ρ, e, t⟩
  · refine .inl ⟨_, e, fun f hf => ?_, w6, w7, w8, rfl⟩
    have hjl : lv.length ≤ j := by
      have := congrArg List.length ed
      rw [List.length_drop, List.length_nil] at this
      omega
    obtain ⟨i, hi⟩ := List.getElem?_of_mem hf
    exact hno i f (by have := (List.getElem?_eq_some_iff.mp hi).1; omega) hi
  · exact .inr ⟨d, ρ, e, t⟩
variable {mv : List (List Nat)} {gd : List Nat} {T : List Ent}
theorem frz_enW {e : En} : frz (enW L e) = enW L e := by unfold enW; simp
theorem la_spec (H : House h L) (M0 : Mach L mv gd) (Tb : Tab h L T) : ∃ a o, ToldS (stT mv T) (diT gd T) L.length (0, 0) a ∧ m__law_apart [houD false h L, macD false mv gd, .lst false (T.map entT)] = .rt (rowO L a) o := by
  have l6 := H.l6
  have F := Tb.form
  have n600 := Tb.n600
  have q1 : ((0, 0) : Nat × Nat).1 < mv.length := M0.n1
  have q2 : ((0, 0) : Nat × Nat).2 < T.length := Tb.n1
  have h0s : 0 ≤ sizeLine := by decide
  have ro : ∀ {α : Type} {E E' : List α} {i : Nat} {e : α}, E'.take E.length = E → i < E.length → E'[i]? = some e → E[i]? = some e := fun {α E E' i e} tk hi he => by
    rw [← tk, List.getElem?_take, if_pos hi]; exact he
  have wl := while_goes (c := fTv (vOp2 gNe (vVar 5) (vLst vNil))) (g := l__law_apart_4)
    (fun x ρ => ∃ (E : List En) (n l : Nat) (o o5 : Bool) (v6 v7 v8 v9 v10 v11 : Option D), ρ = [some (houD false h L), some (macD false mv gd), some (.lst false (T.map entT)), some (.lst o (L.map fun e => sgD e.1)), some (seD E), some (.lst o5 ((E.drop n).map (enW L))), v6, v7, v8, v9, v10, v11, none, none] ∧
      x = 18001 - n ∧ n ≤ E.length ∧ Bf (stT mv T) L.length (0, 0) E n 0 ∧ NoD (diT gd T) E n ∧ ∀ (i : Nat) (e : En), n ≤ i → E[i]? = some e → e.2.length = l)
    (fun ρ => (∃ E : List En, Bf (stT mv T) L.length (0, 0) E E.length 0 ∧ NoD (diT gd T) E E.length) ∧ ρ.length = 14)
    (fun d ρ => (∃ W, d = .str (rowS (wrd L W)) ∧ BestS (stT mv T) (diT gd T) L.length (0, 0) W) ∧ ρ.length = 14) (by
      rintro x ρ ⟨E, n, l, o, o5, v6, v7, v8, v9, v10, v11, rfl, hx, hn, B, N, lw⟩
      obtain ⟨hb, hE⟩ := BfT.size M0 F n600 q1 q2 B
      have nn := ne_nil (f := enW L) (xs := E.drop n) (o := o5) (o' := true) fun e _ => sh_enW H
      by_cases c : n < E.length
      · have ne : ¬ E.drop n = [] := fun z => by
          have := congrArg List.length z
          rw [List.length_drop, List.length_nil] at this; omega
        rw [decide_eq_false ne] at nn
        have tv : fTv (vOp2 gNe (vVar 5) (vLst vNil)) [some (houD false h L), some (macD false mv gd), some (.lst false (T.map entT)), some (.lst o (L.map fun e => sgD e.1)), some (seD E), some (.lst o5 ((E.drop n).map (enW L))), v6, v7, v8, v9, v10, v11, none, none] = .ok true [some (houD false h L), some (macD false mv gd), some (.lst false (T.map entT)), some (.lst o (L.map fun e => sgD e.1)), some (seD E), some (.lst o5 ((E.drop n).map (enW L))), v6, v7, v8, v9, v10, v11, none, none] := tv_of (v2_of rfl rfl nn)
        refine .inr ⟨_, tv, ?_⟩
        have fN : frz (.lst o5 ((E.drop n).map (enW L))) = .lst false ((E.drop n).map (enW L)) := by rw [frz_lst, frzs_mapf (f := enW L) (g := enW L) fun _ _ => frz_enW]
        have iN : itemsL (.lst false ((E.drop n).map (enW L))) = some ((E.drop n).map (enW L)) := by rw [items_l, frzs_mapf (f := enW L) (g := enW L) fun _ _ => frz_enW]
        have fN2 : frz (.lst false ((E.drop n).map (enW L))) = .lst false ((E.drop n).map (enW L)) := by rw [frz_lst, frzs_mapf (f := enW L) (g := enW L) fun _ _ => frz_enW]
        have dm : ∀ e ∈ E.drop n, e.1.2 < T.length := fun e he => (hb e (List.mem_of_mem_drop he)).2
        rcases la3 (L := L) (mv := mv) (gd := gd) dm (v0 := some (houD false h L)) (v3 := some (.lst o (L.map fun e => sgD e.1))) (v4 := some (seD E)) (v5 := some (.lst false ((E.drop n).map (enW L)))) (v6 := v6) (v7 := v7) (v8 := v8) (v9 := v9) (v10 := v10) (v11 := v11) (v12 := none) (v13 := none) with ⟨ρ, lp, hno, w6, w7, w8, rfl⟩ | ⟨d, ρ, lp, j, e, hj, hd, hno, rfl, hl⟩
        rotate_left
        · have hj' : E[n + j]? = some e := by rw [List.getElem?_drop] at hj; exact hj
          refine .inr ⟨.str (rowS (wrd L e.2)), ρ, ?_, ⟨e.2, rfl, B.level N lw (j := n + j) (by omega) hj' hd fun i f hi hf => ?_⟩, hl⟩
          · unfold l__law_apart_4
            generalize (E.drop n).map (enW L) = LV at *
            generalize D.lst o (L.map fun e => sgD e.1) = LS at *
            generalize D.lst false (T.map entT) = TD at *
            generalize macD false mv gd = MM at *
            generalize houD false h L = HH at *
            generalize D.lst o5 LV = N5 at *
            generalize D.lst false LV = NF at *
            simp [fN, iN, lp]
          · by_cases c2 : i < n
            · exact N i f c2 hf
            · refine hno (i - n) f (by omega) ?_
              rw [List.getElem?_drop, show n + (i - n) = i by omega]; exact hf
        · have z0 : loL L (E.drop E.length) = .lst true [] := by rw [List.drop_length]; rfl
          obtain ⟨ρ', lp2, E', w6', w7', w8', w10, w11, rfl, B', k1, tk, lw'⟩ := loopM (step := stepS (gT 3 (gsC (gN 6) (gsC (gN 7) (gsC (gN 8) gsN)))) l__law_apart_2) (f := enW L) (xs := E.drop n) (ρ := [some (houD false h L), some (macD false mv gd), some (.lst false (T.map entT)), some (.lst o (L.map fun e => sgD e.1)), some (seD E), some (.lst false ((E.drop n).map (enW L))), w6, w7, w8, some (loL L (E.drop E.length)), v10, v11, none, none])
            (fun j ρ => ∃ (E' : List En) (w6 w7 w8 w10 w11 : Option D), ρ = [some (houD false h L), some (macD false mv gd), some (.lst false (T.map entT)), some (.lst o (L.map fun e => sgD e.1)), some (seD E'), some (.lst false ((E.drop n).map (enW L))), w6, w7, w8, some (loL L (E'.drop E.length)), w10, w11, none, none] ∧
              Bf (stT mv T) L.length (0, 0) E' (n + j) 0 ∧ E.length ≤ E'.length ∧ E'.take E.length = E ∧ ∀ (i : Nat) (e : En), E.length ≤ i → E'[i]? = some e → e.2.length = l + 1)
            ⟨E, w6, w7, w8, v10, v11, rfl, B, Nat.le_refl _, by simp, fun i e hi he => (by have := (List.getElem?_eq_some_iff.mp he).1; omega)⟩ (by
              rintro j e ρ hj ⟨E1, u6, u7, u8, u10, u11, rfl, B1, k1, tk, lw1⟩
              rw [List.getElem?_drop] at hj
              have hjl := (List.getElem?_eq_some_iff.mp hj).1
              have hj1 : E1[n + j]? = some e := by
                rw [← tk, List.getElem?_take, if_pos hjl] at hj; exact hj
              obtain ⟨E2, u10', u11', st, B2, k3, t2, l2, k4⟩ := la2 H M0 F n600 q1 q2 B1 hj1 k1 (o := o) (v0 := some (houD false h L)) (v5 := some (.lst false ((E.drop n).map (enW L)))) (v6 := u6) (v7 := u7) (v8 := u8) (v10 := u10) (v11 := u11) (v12 := none) (v13 := none)
              refine ⟨_, st, E2, _, _, _, u10', u11', rfl, B2, k3, ?_, fun i f hi hf => ?_⟩
              · have := congrArg (List.take E.length) t2
                rw [List.take_take, Nat.min_eq_left k1] at this
                rw [this, tk]
              · by_cases c2 : i < E1.length
                · exact lw1 i f hi (ro t2 c2 hf)
                · have := l2 i f (by omega) hf
                  rw [this, lw (n + j) e (by omega) (by rw [← tk, List.getElem?_take, if_pos hjl]; exact hj1)])
          rw [List.length_drop, show n + (E.length - n) = E.length by omega] at B'
          have N' : NoD (diT gd T) E' E.length := fun i e hi he => by
            have he2 := ro tk hi he
            by_cases c2 : i < n
            · exact N i e c2 he2
            · refine hno e (List.mem_of_getElem? (i := i - n) ?_)
              rw [List.getElem?_drop, show n + (i - n) = i by omega]; exact he2
          refine .inl ⟨_, 18001 - E.length, ?_, by omega, E', E.length, l + 1, o, false, w6', w7', w8', some (.lst false ((E'.drop E.length).map (enW L))), w10, w11, rfl, rfl, k1, B', N', lw'⟩
          have fL : frz (loL L (E'.drop E.length)) = .lst false ((E'.drop E.length).map (enW L)) := by unfold loL; rw [frz_lst, frzs_mapf (f := enW L) (g := enW L) fun _ _ => frz_enW]
          rw [z0] at lp2
          unfold l__law_apart_4
          generalize loL L (E'.drop E.length) = LO at *
          generalize (E'.drop E.length).map (enW L) = LV2 at *
          generalize (E.drop n).map (enW L) = LV at *
          generalize D.lst o (L.map fun e => sgD e.1) = LS at *
          generalize D.lst false (T.map entT) = TD at *
          generalize macD false mv gd = MM at *
          generalize houD false h L = HH at *
          generalize D.lst o5 LV = N5 at *
          generalize D.lst false LV = NF at *
          generalize D.lst false LV2 = NF2 at *
          simp [fN, fN2, iN, lp, h0s, lp2, fL]
      · have : n = E.length := by omega
        subst this
        rw [decide_eq_true (List.drop_length)] at nn
        have tv : fTv (vOp2 gNe (vVar 5) (vLst vNil)) [some (houD false h L), some (macD false mv gd), some (.lst false (T.map entT)), some (.lst o (L.map fun e => sgD e.1)), some (seD E), some (.lst o5 ((E.drop E.length).map (enW L))), v6, v7, v8, v9, v10, v11, none, none] = .ok false [some (houD false h L), some (macD false mv gd), some (.lst false (T.map entT)), some (.lst o (L.map fun e => sgD e.1)), some (seD E), some (.lst o5 ((E.drop E.length).map (enW L))), v6, v7, v8, v9, v10, v11, none, none] := tv_of (v2_of rfl rfl nn)
        exact .inl ⟨_, tv, ⟨E, B, N⟩, rfl⟩) fuel 18001
    [some (houD false h L), some (macD false mv gd), some (.lst false (T.map entT)), some (.lst true (L.map fun e => sgD e.1)), some (seD [((0, 0), [])]), some (.lst true ((List.drop 0 [((0, 0), [])]).map (enW L))), none, none, none, none, none, none, none, none]
    ⟨[((0, 0), [])], 0, 0, true, true, none, none, none, none, none, none, rfl, rfl, Nat.zero_le _, Bf.init, fun i e hi => by omega, fun i e hi he => by
      cases i with
      | zero => cases he; rfl
      | succ i => simp at he⟩ (by decide)
  rw [List.drop_zero, List.map_cons, List.map_nil] at wl
  have lcL : fLc (fIt itemsL (fI (vOp2 gIx (vVar 0) (vK (.int 1))))) (gT 2 (gsC (gN 12) (gsC (gN 13) gsN))) fYes (fVar 12) [12, 13] [some (houD false h L), some (macD false mv gd), some (.lst false (T.map entT)), none, none, none, none, none, none, none, none, none, none, none]
      = .ok (.lst true (L.map fun e => sgD e.1)) [some (houD false h L), some (macD false mv gd), some (.lst false (T.map entT)), none, none, none, none, none, none, none, none, none, none, none] := by
    have hix : gIx (houD false h L) (.int 1) = some (.lst false (L.map (entD false))) := hou_ix1
    have ie : isImm (.lst false (L.map (entD false))) = true := by rw [imm_lstI]; exact imms_map fun _ _ => imm_ent
    have ite : itemsL (.lst false (L.map (entD false))) = some (L.map (entD false)) := by rw [items_l, frzs_mapf (f := entD false) (g := entD false) fun _ _ => by unfold entD; simp [frz_own]]
    generalize D.lst false (L.map (entD false)) = LE at *
    generalize D.lst false (T.map entT) = TD at *
    generalize macD false mv gd = MM at *
    generalize houD false h L = HH at *
    refine lc_all (g := entD false) (by simp [-ix_t, hix, ie, ite]) (by simp) (by unfold sizeLine; omega) fun e _ => ?_
    refine ⟨[some HH, some MM, some TD, none, none, none, none, none, none, none, none, none, some (sgD e.1), some (ownD false e.2)], by unfold entD; simp; rfl, [some HH, some MM, some TD, none, none, none, none, none, none, none, none, none, some (sgD e.1), some (ownD false e.2)], by simp [sgD], by simp⟩
  have e7 : D.lst true [.tup [.str (Str.ofString ""), .int 0, .int 0]] = .lst true [enW L ((0, 0), [])] := by
    unfold enW; rw [show wrd L (((0, 0), []) : En).2 = [] from rfl, rowS_nil]; rfl
  have e8 : D.dcT true [[.inl 0, .inl 0]] [.bl true] = seD [((0, 0), [])] := rfl
  have ks : keysT (.tup [.int 0, .int 0]) = some [.inl 0, .inl 0] := rfl
  have hs1 : 1 ≤ sizeLine := by decide
  have hs2 : 2 ≤ sizeLine := by decide
  have hs3 : 3 ≤ sizeLine := by decide
  rcases wl with ⟨ρ', lp, ⟨E, hB, hN⟩, hl⟩ | ⟨d, ρ', lp, ⟨W, hW, hB⟩, hl⟩
  · refine ⟨none, outsOf [false, false, false] ρ', hB.never hN, ?_⟩
    unfold m__law_apart; rw [semOf_ap]; unfold b__law_apart
    generalize (L.map fun e => sgD e.1) = LS at *
    generalize D.lst false (T.map entT) = TD at *
    generalize macD false mv gd = MM at *
    generalize houD false h L = HH at *
    simp [lcL, ks, e7, e8, hs1, hs2, hs3, lp, rowO]
  · refine ⟨some W, outsOf [false, false, false] ρ', hB, ?_⟩
    subst hW
    unfold m__law_apart; rw [semOf_ap]; unfold b__law_apart
    generalize (L.map fun e => sgD e.1) = LS at *
    generalize D.lst false (T.map entT) = TD at *
    generalize macD false mv gd = MM at *
    generalize houD false h L = HH at *
    simp [lcL, ks, e7, e8, hs1, hs2, hs3, lp, rowO]
variable {mv : List (List Nat)} {gd : List Nat} {T : List Ent}
theorem sh_kDn {x : List Nat} {n : Nat} : Sh (n + 1) (kD x) := sh_tup (n := n) fun d hd => by obtain ⟨y, _, rfl⟩ := List.mem_map.mp hd; exact sh_int
theorem sh_entT {e : Ent} : Sh 3 (entT e) := sh_tup (n := 2) fun d hd => by
  rcases List.mem_cons.mp hd with rfl | hd
  · exact sh_kDn
  · rcases List.mem_cons.mp hd with rfl | hd
    · exact sh_bl
    · cases List.mem_singleton.mp hd
      exact sh_kDn
theorem sh_tabD {o : Bool} : Sh 4 (.lst o (T.map entT)) := sh_lst (n := 3) fun d hd => by
  obtain ⟨e, _, rfl⟩ := List.mem_map.mp hd
  exact sh_entT
theorem kept_eq {o o' : Bool} : gEq (.tup [.lst o (T.map entT), macD false mv gd]) (.tup [.lst o' (T.map entT), macD true mv gd]) = some (.bl true) := by
  have s1 : ∀ o b, Sh 6 (.tup [.lst o (T.map entT), macD b mv gd]) := fun o b => sh_tup (n := 5) fun d hd => by
    rcases List.mem_cons.mp hd with rfl | hd
    · exact sh_tabD.mono (by omega)
    · cases List.mem_singleton.mp hd
      exact sh_mac
  show (if SeqAt.shaped (toPy (.tup [.lst o (T.map entT), macD false mv gd])) = true ∧ SeqAt.shaped (toPy (.tup [.lst o' (T.map entT), macD true mv gd])) = true then some (D.bl (PyData.eqv (toPy (.tup [.lst o (T.map entT), macD false mv gd])) (toPy (.tup [.lst o' (T.map entT), macD true mv gd])))) else none) = _
  have e : toPy (.tup [.lst o (T.map entT), macD false mv gd]) = toPy (.tup [.lst o' (T.map entT), macD true mv gd]) := by
    simp only [toPy, toPys, toPy_mac (o := false) (o' := true)]
  rw [if_pos ⟨(s1 _ _).shaped (by omega), (s1 _ _).shaped (by omega)⟩, e, SeqAt.eqv_refl _ (s1 o' true).1]
theorem tail_true (H : House h L) (M0 : Mach L mv gd) (Tb : Tab h L T) {SC : D} {o o1 : Bool} {v3 v4 v6 v7 v11 v12 v13 v14 v15 : Option D} (i15 : immO (some v15) = true) : ∃ ρ',
    (fSeq (fAsg (fTup (fCons (fOpN gList (fCons (fVar 2) fNil)) (fCons (fTup (fCons (fLc (fIt itemsL (fI (vOp2 gIx (vVar 5) (vK (.int 0))))) (gN 15) fYes (fOpN gList (fCons (fVar 15) fNil)) [15]) (fCons (fOpN gList (fCons (fI (vOp2 gIx (vVar 5) (vK (.int 1)))) fNil)) fNil))) fNil))) (gN 8))
    (fSeq (fAsg (fCall 3 m__law_apart (fCons (fVar 1) (fCons (fVar 5) (fCons (fVar 2) fNil)))) (gN 9))
    (fSeq (fAsg (fCall 3 m_row_apart (fCons (fVar 1) (fCons (fVar 5) (fCons (fVar 2) fNil)))) (gN 10))
    (fSeq (fIf (fOr (fAnd (fTv (vOp2 gIs' (vVar 9) (vK .non))) (fTv (vOp2 gIsn' (vVar 10) (vK .non)))) (fAnd (fTv (vOp2 gIsn' (vVar 9) (vK .non))) (fOr (fNot (fTv (vOpN gIsi (vCons (vVar 10) (vCons (vK (.gv (.ty "str"))) vNil))))) (fTv (vOp2 gNe (vVar 10) (vVar 9))))))
    (fRet (fK (.bl false)))
    fNext)
    (fRet (fI (vOp2 gEq (vTup (vCons (vVar 2) (vCons (vVar 5) vNil))) (vVar 8)))))))) [some SC, some (houD o1 h L), some (.lst o (T.map entT)), v3, v4, some (macD false mv gd), v6, v7, none, none, none, v11, v12, v13, v14, v15] = .rt (.bl true) ρ' := by
  obtain ⟨a, oa, ta, la⟩ := la_spec H M0 Tb
  obtain ⟨b, ob, tb, ra⟩ := ra_spec H M0 Tb
  have eab := ta.uniq tb
  subst eab
  have n30 := M0.n30
  have fT : ∀ o, frz (D.lst o (T.map entT)) = .lst false (T.map entT) := fun o => by rw [frz_lst, frzs_mapf (f := entT) (g := entT) fun _ _ => frz_entT]
  have gl : gList [.lst false (T.map entT)] = some (.lst true (T.map entT)) := by
    show (if isImms (T.map entT) = true then _ else _) = _
    rw [if_pos (imms_map fun _ _ => imm_entT)]
  have i0 : isImm (.lst false (mv.map (ownD false))) = true := by simp [imms_map fun (l : List Nat) (_ : l ∈ mv) => imm_own]
  have m0 := mac_0 (o := false) (mv := mv) (gd := gd)
  have m1 := mac_1 (o := false) (mv := mv) (gd := gd)
  have itm : itemsL (.lst false (mv.map (ownD false))) = some (mv.map (ownD false)) := by rw [items_l, frzs_mapf (f := ownD false) (g := ownD false) fun _ _ => frz_own]
  have lc : ∀ (HH : D) (v2 : Option D), fLc (fIt itemsL (fI (vOp2 gIx (vVar 5) (vK (.int 0))))) (gN 15) fYes (fOpN gList (fCons (fVar 15) fNil)) [15] [some SC, some HH, v2, v3, v4, some (macD false mv gd), v6, v7, none, none, none, v11, v12, v13, v14, v15]
      = .ok (.lst true (mv.map (ownD true))) [some SC, some HH, v2, v3, v4, some (macD false mv gd), v6, v7, none, none, none, v11, v12, v13, v14, v15] := fun HH v2 => by
    generalize macD false mv gd = MM at *
    generalize D.lst false (mv.map (ownD false)) = ML at *
    refine lc_all (g := ownD false) (by simp [m0, i0, itm]) (by simp [i15]) (by unfold sizeLine; omega) fun l _ => ?_
    have lo : gList [ownD false l] = some (ownD true l) := by
      show (if isImms (l.map natD) = true then _ else _) = _
      rw [if_pos (imms_map fun _ _ => rfl)]; rfl
    have fo : frz (ownD false l) = ownD false l := frz_own
    generalize ownD false l = OL at *
    exact ⟨[some SC, some HH, v2, v3, v4, some MM, v6, v7, none, none, none, v11, v12, v13, v14, some OL], by simp, [some SC, some HH, v2, v3, v4, some MM, v6, v7, none, none, none, v11, v12, v13, v14, some OL], by simp [fo, lo], by simp⟩
  have lg : gList [ownD false gd] = some (ownD true gd) := by
    show (if isImms (gd.map natD) = true then _ else _) = _
    rw [if_pos (imms_map fun _ _ => rfl)]; rfl
  have ig : isImm (ownD false gd) = true := imm_own
  have s2 : 2 ≤ sizeLine := by decide
  have fh : frz (houD o1 h L) = houD false h L := by simp
  have fh2 : frz (houD false h L) = houD false h L := by simp
  have fm : frz (macD false mv gd) = macD false mv gd := frz_mac
  have ke := kept_eq (T := T) (mv := mv) (gd := gd) (o := false) (o' := true)
  have em : macD true mv gd = .tup [.lst true (mv.map (ownD true)), ownD true gd] := rfl
  rw [em] at ke
  have fT1 := fT o
  have fT2 := fT false
  have lcH := lc (houD o1 h L)
  refine ⟨[some SC, some (houD false h L), some (.lst false (T.map entT)), v3, v4, some (macD false mv gd), v6, v7, some (.tup [.lst true (T.map entT), .tup [.lst true (mv.map (ownD true)), ownD true gd]]), some (rowO L a), some (rowO L a), v11, v12, v13, v14, v15], ?_⟩
  have cond : ∀ (x : D) (ρ : Ev), x = rowO L a → ρ[9]? = some (some x) → ρ[10]? = some (some x) → fOr (fAnd (fTv (vOp2 gIs' (vVar 9) (vK .non))) (fTv (vOp2 gIsn' (vVar 10) (vK .non)))) (fAnd (fTv (vOp2 gIsn' (vVar 9) (vK .non))) (fOr (fNot (fTv (vOpN gIsi (vCons (vVar 10) (vCons (vK (.gv (.ty "str"))) vNil))))) (fTv (vOp2 gNe (vVar 10) (vVar 9))))) ρ = .ok false ρ := fun x ρ ex h9 h10 => by
    cases a with
    | none =>
      have ex : x = .non := ex
      subst ex
      have g1 : gIs' .non .non = some (.bl true) := rfl
      have g2 : gIsn' .non .non = some (.bl false) := rfl
      simp [h9, h10, g1, g2]
    | some W =>
      have ex : x = .str (rowS (wrd L W)) := ex
      have g1 : gIs' x .non = some (.bl false) := by rw [ex]; rfl
      have g2 : gIsn' x .non = some (.bl true) := by rw [ex]; rfl
      have g3 : gIsi [x, .gv (.ty "str")] = some (.bl true) := by rw [ex]; rfl
      have g4 : gNe x x = some (.bl false) := by rw [ex, ne_ss]; simp
      simp [h9, h10, g1, g2, g3, g4]
  have fr : frz (rowO L a) = rowO L a := by cases a <;> rfl
  have c2 := fun ρ => cond (rowO L a) ρ rfl
  generalize rowO L a = RO at *
  generalize ownD true gd = GT at *
  generalize ownD false gd = GF at *
  generalize D.lst true (mv.map (ownD true)) = MT at *
  generalize D.lst false (mv.map (ownD false)) = ML at *
  generalize macD false mv gd = MM at *
  generalize D.lst o (T.map entT) = T0 at *
  generalize D.lst true (T.map entT) = TT' at *
  generalize D.lst false (T.map entT) = TF at *
  generalize houD o1 h L = H1 at *
  generalize houD false h L = HH at *
  simp [-ap_or, -ap_and, -ix_l, -ix_t, fT1, fT2, gl, m0, m1, i0, itm, lcH, lg, ig, s2, fh, fh2, fm, la, ra, c2, ke]
theorem erase_rise : ∀ {xs : List Nat} {r : Nat}, xs.Pairwise (· < ·) → (xs.eraseIdx r).Pairwise (· < ·) := fun {xs r} h => h.sublist (List.eraseIdx_sublist xs r)
theorem erase_map : ∀ (xs : List Nat) (r : Nat), (xs.map natD).eraseIdx r = (xs.eraseIdx r).map natD
  | [], _ => rfl
  | x :: xs, 0 => rfl
  | x :: xs, r + 1 => congrArg (natD x :: ·) (erase_map xs r)
theorem pop_at {ρ ρ1 : Ev} {i r : Nat} {xs : List Nat} {f : Ev → Hap.R D} (h : ρ[i]? = some (some (ownD true xs))) (hf : f ρ = .ok (.int (r : Int)) ρ1) (h1 : ρ1[i]? = some (some (ownD true xs))) (hr : r < xs.length) (hl : xs.length < sizeLine) : fDrop (fPopA i (fCons f fNil)) ρ = .nx (ρ1.set i (some (ownD true (xs.eraseIdx r)))) := by
  have e1 : (fCons f fNil : Ev → Hap.R (List D)) ρ = .ok [.int (r : Int)] ρ1 := by rw [ap_cons, hf]; rfl
  have e2 : ixN xs.length (r : Int) = some r := by unfold ixN; rw [if_pos (by omega), if_pos (by omega), Int.toNat_natCast]
  have e3 : (xs.map natD)[r]? = some (natD xs[r]) := by rw [List.getElem?_map, List.getElem?_eq_getElem hr]; rfl
  have e4 : isImm (natD xs[r]) = true := rfl
  unfold ownD at h h1
  have pp : fPopA i (fCons f fNil) ρ = .ok (natD xs[r]) (ρ1.set i (some (.lst true ((xs.map natD).eraseIdx r)))) := by
    unfold fPopA
    simp only [h, e1, Hap.R.bind, int1, isL1, h1, e2, natR, popD, e3, e4, List.length_map]
    rw [if_pos ⟨trivial, by omega⟩]
  rw [ap_drop, pp, rsof_ok]
  have : (xs.map natD).eraseIdx r = (xs.eraseIdx r).map natD := erase_map xs r
  rw [this]; rfl
/-- the machine whose rooms are the table's entries -/
theorem tab_mach (Tb : Tab h L T) (h31 : T.length < 31) {gd' : List Nat} (hr : gd'.Pairwise (· < ·)) (hl : ∀ x ∈ gd', x < T.length) : Mach L (T.map (·.2.2)) gd' where
  n1 := by rw [List.length_map]; exact Tb.n1
  n30 := by rw [List.length_map]; omega
  len := fun l hl => by obtain ⟨e, he, rfl⟩ := List.mem_map.mp hl; exact Tb.fl e he
  lt := fun l hl x hx => by obtain ⟨e, he, rfl⟩ := List.mem_map.mp hl; rw [List.length_map]; exact Tb.flt e he x hx
  rise := hr
  good := fun x hx => by rw [List.length_map]; exact hl x hx
theorem branch_true (H : House h L) (Tb : Tab h L T) (t31 : T.length < 31) {SC HH MM d2 : D} {n k : Nat} (hd2 : Bag n d2) (hn : n < 2 ^ 40) : ∃ (d3 : D) (gd' : List Nat) (v6 v7 : Option D), Mach L (T.map (·.2.2)) gd' ∧
    (fSeq (fAsg (fLc (fIt itemsL (fVar 2)) (gT 3 (gsC (gN 11) (gsC (gN 12) (gsC (gN 13) gsN)))) fYes (fOpN gList (fCons (fVar 13) fNil)) [11, 12, 13]) (gN 6))
    (fSeq (fAsg (fLc (fItN rng1 (fCons (fI (vOpN gLen (vCons (vVar 2) vNil))) fNil)) (gN 14) (fTv (vOp2 gIx (vOp2 gIx (vVar 2) (vVar 14)) (vK (.int 1)))) (fVar 14) [14]) (gN 7))
    (fSeq (fIf (fAnd (fTv (vOp2 gNe (vVar 7) (vLst vNil))) (fTb (fOp2V gEq (fCallIO 3 2 m__law_take (fCons (fK (.int 2)) fNil)) (vK (.int 1)))))
    (fDrop (fPopA 7 (fCons (fCallIO 3 2 m__law_take (fCons (fI (vOpN gLen (vCons (vVar 7) vNil))) fNil)) fNil)))
    fNext)
    (fAsg (fFz (fTup (fCons (fVar 6) (fCons (fVar 7) fNil)))) (gN 5))))) [some SC, some HH, some (.lst true (T.map entT)), some d2, some (.int (k : Int)), some MM, none, none, none, none, none, none, none, none, none, none]
      = .nx [some SC, some HH, some (.lst false (T.map entT)), some d3, some (.int (k : Int)), some (macD false (T.map (·.2.2)) gd'), v6, v7, none, none, none, none, none, none, none, none] := by
  have fT : frz (D.lst true (T.map entT)) = .lst false (T.map entT) := by rw [frz_lst, frzs_mapf (f := entT) (g := entT) fun _ _ => frz_entT]
  have iT : itemsL (D.lst false (T.map entT)) = some (T.map entT) := by rw [items_l, frzs_mapf (f := entT) (g := entT) fun _ _ => frz_entT]
  have lT : gLen [.lst false (T.map entT)] = some (.int (T.length : Int)) := by rw [len_l, List.length_map]
  have lc6 : fLc (fIt itemsL (fVar 2)) (gT 3 (gsC (gN 11) (gsC (gN 12) (gsC (gN 13) gsN)))) fYes (fOpN gList (fCons (fVar 13) fNil)) [11, 12, 13] [some SC, some HH, some (.lst true (T.map entT)), some d2, some (.int (k : Int)), some MM, none, none, none, none, none, none, none, none, none, none]
      = .ok (.lst true (T.map fun e => ownD true e.2.2)) [some SC, some HH, some (.lst false (T.map entT)), some d2, some (.int (k : Int)), some MM, none, none, none, none, none, none, none, none, none, none] := by
    generalize D.lst false (T.map entT) = TF at *
    generalize D.lst true (T.map entT) = TT' at *
    refine lc_all (g := entT) (by simp [fT, iT]) (by simp) (by unfold sizeLine; omega) fun e _ => ?_
    have lo : gList [kD e.2.2] = some (ownD true e.2.2) := by
      show (if isImms (e.2.2.map natD) = true then _ else _) = _
      rw [if_pos (imms_map fun _ _ => rfl)]; rfl
    have fo := frz_kD (x := e.2.2)
    have gt : gT 3 (gsC (gN 11) (gsC (gN 12) (gsC (gN 13) gsN))) (entT e) [some SC, some HH, some TF, some d2, some (.int (k : Int)), some MM, none, none, none, none, none, none, none, none, none, none] = some [some SC, some HH, some TF, some d2, some (.int (k : Int)), some MM, none, none, none, none, none, some (kD e.1), some (.bl e.2.1), some (kD e.2.2), none, none] := by unfold entT; simp
    generalize kD e.2.2 = K2 at *
    exact ⟨[some SC, some HH, some TF, some d2, some (.int (k : Int)), some MM, none, none, none, none, none, some (kD e.1), some (.bl e.2.1), some K2, none, none], gt, [some SC, some HH, some TF, some d2, some (.int (k : Int)), some MM, none, none, none, none, none, some (kD e.1), some (.bl e.2.1), some K2, none, none], by simp [fo, lo], by simp⟩
  obtain ⟨R0, hR0⟩ : ∃ R0, R0 = (List.range T.length).filter (okT T) := ⟨_, rfl⟩
  have rr := rng1_n (n := T.length) (by omega)
  have lc7 : ∀ v6, fLc (fItN rng1 (fCons (fI (vOpN gLen (vCons (vVar 2) vNil))) fNil)) (gN 14) (fTv (vOp2 gIx (vOp2 gIx (vVar 2) (vVar 14)) (vK (.int 1)))) (fVar 14) [14] [some SC, some HH, some (.lst false (T.map entT)), some d2, some (.int (k : Int)), some MM, v6, none, none, none, none, none, none, none, none, none]
      = .ok (ownD true R0) [some SC, some HH, some (.lst false (T.map entT)), some d2, some (.int (k : Int)), some MM, v6, none, none, none, none, none, none, none, none, none] := fun v6 => by
    rw [hR0]
    unfold ownD
    have ea := fun (r : Nat) (hr : r < T.length) => entT_at (T := T) hr
    generalize D.lst false (T.map entT) = TF at *
    refine lc_map (g := fun k : Nat => D.int (k : Int)) (p := okT T) (e := natD) (by simp [lT, rr]) (by simp) (by rw [List.length_range]; unfold sizeLine; omega) fun r hr => ?_
    have e1 := ea r (List.mem_range.mp hr)
    have e2 : gIx (entT (T.getD r ([], false, []))) (.int 1) = some (.bl (okT T r)) := ent_1
    exact ⟨[some SC, some HH, some TF, some d2, some (.int (k : Int)), some MM, v6, none, none, none, none, none, none, none, some (.int (r : Int)), none], by simp, [some SC, some HH, some TF, some d2, some (.int (k : Int)), some MM, v6, none, none, none, none, none, none, none, some (.int (r : Int)), none], tv_of (v2_of (v2_of rfl rfl e1) rfl e2), fun _ => ⟨[some SC, some HH, some TF, some d2, some (.int (k : Int)), some MM, v6, none, none, none, none, none, none, none, some (.int (r : Int)), none], by simp [natD_eq], by simp⟩, fun _ => by simp⟩
  have rise0 : R0.Pairwise (· < ·) := by rw [hR0]; exact List.Pairwise.filter _ List.pairwise_lt_range
  have lt0 : ∀ x ∈ R0, x < T.length := fun x hx => by rw [hR0, List.mem_filter, List.mem_range] at hx; exact hx.1
  have lR0 : R0.length ≤ T.length := by rw [hR0]; exact Nat.le_trans (List.length_filter_le _ _) (by rw [List.length_range]; exact Nat.le_refl _)
  have nn : gNe (ownD true R0) (.lst true []) = some (.bl (!decide (R0 = []))) := ne_nil (f := natD) (o := true) (o' := true) fun _ _ => sh_int
  have gl0 : gLen [ownD true R0] = some (.int (R0.length : Int)) := by unfold ownD; rw [len_l, List.length_map]
  have s0 : 0 ≤ sizeLine := by decide
  have s2 : 2 ≤ sizeLine := by decide
  -- the last step
  have last : ∀ (d3 : D) (gd' : List Nat), fAsg (fFz (fTup (fCons (fVar 6) (fCons (fVar 7) fNil)))) (gN 5) [some SC, some HH, some (.lst false (T.map entT)), some d3, some (.int (k : Int)), some MM, some (.lst true (T.map fun e => ownD true e.2.2)), some (ownD true gd'), none, none, none, none, none, none, none, none]
      = .nx [some SC, some HH, some (.lst false (T.map entT)), some d3, some (.int (k : Int)), some (macD false (T.map (·.2.2)) gd'), some (.lst false (T.map fun e => ownD false e.2.2)), some (ownD false gd'), none, none, none, none, none, none, none, none] := fun d3 gd' => by
    have f6 : frz (.lst true (T.map fun e => ownD true e.2.2)) = .lst false (T.map fun e => ownD false e.2.2) := by rw [frz_lst, frzs_mapf (f := fun e : Ent => ownD true e.2.2) (g := fun e => ownD false e.2.2) fun _ _ => frz_own]
    have f6' : frz (.lst false (T.map fun e => ownD false e.2.2)) = .lst false (T.map fun e => ownD false e.2.2) := by rw [frz_lst, frzs_mapf (f := fun e : Ent => ownD false e.2.2) (g := fun e => ownD false e.2.2) fun _ _ => frz_own]
    have f7 : frz (ownD true gd') = ownD false gd' := frz_own
    have f7' : frz (ownD false gd') = ownD false gd' := frz_own
    have em : macD false (T.map (·.2.2)) gd' = .tup [.lst false (T.map fun e => ownD false e.2.2), ownD false gd'] := by unfold macD; rw [List.map_map]; rfl
    rw [em]
    generalize D.lst false (T.map fun e => ownD false e.2.2) = A1 at *
    generalize D.lst true (T.map fun e => ownD true e.2.2) = A2 at *
    generalize ownD true gd' = A3 at *
    generalize ownD false gd' = A4 at *
    simp [f6, f7, s2, f6', f7']
  have st6 : fAsg (fLc (fIt itemsL (fVar 2)) (gT 3 (gsC (gN 11) (gsC (gN 12) (gsC (gN 13) gsN)))) fYes (fOpN gList (fCons (fVar 13) fNil)) [11, 12, 13]) (gN 6) [some SC, some HH, some (.lst true (T.map entT)), some d2, some (.int (k : Int)), some MM, none, none, none, none, none, none, none, none, none, none] = .nx [some SC, some HH, some (.lst false (T.map entT)), some d2, some (.int (k : Int)), some MM, some (.lst true (T.map fun e => ownD true e.2.2)), none, none, none, none, none, none, none, none, none] := by
    rw [ap_asg, lc6, rsof_ok, ap_gN, tgR_s]; rfl
  have st7 : ∀ v6, fAsg (fLc (fItN rng1 (fCons (fI (vOpN gLen (vCons (vVar 2) vNil))) fNil)) (gN 14) (fTv (vOp2 gIx (vOp2 gIx (vVar 2) (vVar 14)) (vK (.int 1)))) (fVar 14) [14]) (gN 7) [some SC, some HH, some (.lst false (T.map entT)), some d2, some (.int (k : Int)), some MM, v6, none, none, none, none, none, none, none, none, none] = .nx [some SC, some HH, some (.lst false (T.map entT)), some d2, some (.int (k : Int)), some MM, v6, some (ownD true R0), none, none, none, none, none, none, none, none] := fun v6 => by
    rw [ap_asg, lc7, rsof_ok, ap_gN, tgR_s]; rfl
  rw [ap_seq, st6, seq_nx, ap_seq, st7, seq_nx, ap_seq]
  by_cases c : R0 = []
  · rw [decide_eq_true c] at nn
    refine ⟨d2, R0, some (.lst false (T.map fun e => ownD false e.2.2)), some (ownD false (R0)), tab_mach Tb t31 rise0 lt0, ?_⟩
    have cnd : ∀ v2 v6 : Option D, fAnd (fTv (vOp2 gNe (vVar 7) (vLst vNil))) (fTb (fOp2V gEq (fCallIO 3 2 m__law_take (fCons (fK (.int 2)) fNil)) (vK (.int 1)))) [some SC, some HH, v2, some d2, some (.int (k : Int)), some MM, v6, some (ownD true R0), none, none, none, none, none, none, none, none] = .ok false [some SC, some HH, v2, some d2, some (.int (k : Int)), some MM, v6, some (ownD true R0), none, none, none, none, none, none, none, none] := fun v2 v6 => by
      generalize ownD true R0 = RO at *
      simp [s0, nn]
    rw [ap_if, cnd, rsof_ok, if_neg (by simp), ap_next, seq_nx, last]
  · rw [decide_eq_false c] at nn
    obtain ⟨q, d3, hq, hd3, t3⟩ := take_spec (m := 2) hd2 (by omega) (by omega) (by omega)
    have cnd : ∀ v2 v6 : Option D, fAnd (fTv (vOp2 gNe (vVar 7) (vLst vNil))) (fTb (fOp2V gEq (fCallIO 3 2 m__law_take (fCons (fK (.int 2)) fNil)) (vK (.int 1)))) [some SC, some HH, v2, some d2, some (.int (k : Int)), some MM, v6, some (ownD true R0), none, none, none, none, none, none, none, none] = .ok (decide ((q : Int) = 1)) [some SC, some HH, v2, some d3, some (.int (k : Int)), some MM, v6, some (ownD true R0), none, none, none, none, none, none, none, none] := fun v2 v6 => by
      generalize ownD true R0 = RO at *
      simp [s0, nn, t3]
    by_cases c1 : (q : Int) = 1
    · have l0 : 0 < R0.length := List.length_pos_iff.mpr c
      obtain ⟨r, d4, hr, hd4, t4⟩ := take_spec (m := (R0.length : Int)) hd3 (by omega) (by omega) (by omega)
      refine ⟨d4, R0.eraseIdx r, some (.lst false (T.map fun e => ownD false e.2.2)), some (ownD false (R0.eraseIdx r)), tab_mach Tb t31 (erase_rise rise0) (fun x hx => lt0 x (List.mem_of_mem_eraseIdx hx)), ?_⟩
      rw [ap_if, cnd, rsof_ok, decide_eq_true c1, if_pos rfl]
      have hf : ∀ v2 v6 : Option D, fCallIO 3 2 m__law_take (fCons (fI (vOpN gLen (vCons (vVar 7) vNil))) fNil) [some SC, some HH, v2, some d3, some (.int (k : Int)), some MM, v6, some (ownD true R0), none, none, none, none, none, none, none, none] = .ok (.int (r : Int)) [some SC, some HH, v2, some d4, some (.int (k : Int)), some MM, v6, some (ownD true R0), none, none, none, none, none, none, none, none] := fun v2 v6 => by
        generalize ownD true R0 = RO at *
        simp [gl0, t4]
      rw [pop_at (xs := R0) rfl (hf _ _) rfl (by omega) (by unfold sizeLine; omega), seq_nx]
      exact last d4 (R0.eraseIdx r)
    · refine ⟨d3, R0, some (.lst false (T.map fun e => ownD false e.2.2)), some (ownD false (R0)), tab_mach Tb t31 rise0 lt0, ?_⟩
      rw [ap_if, cnd, rsof_ok, decide_eq_false c1, if_neg (by simp), ap_next, seq_nx, last]
theorem m_law_true (ns : List Int) (_ : ns.length ≤ 63) : ∃ o, m_law [.rol (ns.map D.int)] = .rt (.bl true) o := by
  obtain ⟨b0, hb0, tb0⟩ := bag_spec (cellM ns 0)
  obtain ⟨b1, h, L, hb1, H, th⟩ := house_spec hb0 (by omega)
  obtain ⟨c0, hc0, tc0⟩ := bag_spec (cellM ns 1)
  obtain ⟨c1, T, td, hc1, Tb, t81⟩ := drawn_spec H hc0 (by omega)
  obtain ⟨d0, hd0, td0⟩ := bag_spec (cellM ns 2)
  obtain ⟨kin, d1, hkin, hd1, tk⟩ := take_spec (m := 2) hd0 (by omega) (by omega) (by omega)
  obtain ⟨d2, mv, gd, tm, hd2, M0, _⟩ := machine_spec H hd1 (by omega) (most := 6) (by omega) (by omega)
  have tm : m__law_machine [d1, houD false h L, .int 6] = _ := tm
  have ce0 : m__law_cell [.rol (ns.map D.int), .int 0] = _ := cell_spec ns 0
  have ce1 : m__law_cell [.rol (ns.map D.int), .int 1] = _ := cell_spec ns 1
  have ce2 : m__law_cell [.rol (ns.map D.int), .int 2] = _ := cell_spec ns 2
  have l6 := H.l6
  obtain ⟨SC, hSC⟩ : ∃ SC, SC = D.rol (ns.map D.int) := ⟨_, rfl⟩
  have fSC : frz SC = SC := by rw [hSC, frz_rol, frzs_mapf (f := D.int) (g := D.int) fun _ _ => rfl]
  rw [← hSC] at ce0 ce1 ce2
  have fM : frz (macD true mv gd) = macD false mv gd := frz_mac
  have fH : frz (houD true h L) = houD false h L := by simp
  have fH2 : frz (houD false h L) = houD false h L := by simp
  have eqk : gEq (.int (kin : Int)) (.int 1) = some (.bl (decide ((kin : Int) = 1))) := rfl
  have ltT : gLt (.int (T.length : Int)) (.int 31) = some (.bl (decide ((T.length : Int) < 31))) := rfl
  have lT1 : gLen [.lst true (T.map entT)] = some (.int (T.length : Int)) := by rw [len_l, List.length_map]
  rw [← hSC]
  unfold m_law; rw [semOf_ap]; unfold b_law
  have fin : ∀ {r : RS}, (∃ ρ', r = .rt (.bl true) ρ') → ∃ o, rfOf (List.replicate 1 false) r = .rt (.bl true) o := fun {r} ⟨ρ', e⟩ => ⟨outsOf (List.replicate 1 false) ρ', by rw [e]; rfl⟩
  refine fin ?_
  have cond : ∀ ρ : Ev, ρ[4]? = some (some (.int (kin : Int))) → ρ[2]? = some (some (.lst true (T.map entT))) → fAnd (fTv (vOp2 gEq (vVar 4) (vK (.int 1)))) (fTv (vOp2 gLt (vOpN gLen (vCons (vVar 2) vNil)) (vK (.int 31)))) ρ = .ok (decide ((kin : Int) = 1) && decide ((T.length : Int) < 31)) ρ := fun ρ h4 h2 => by
    generalize D.lst true (T.map entT) = T1 at *
    cases c1 : decide ((kin : Int) = 1) with
    | true =>
      rw [c1] at eqk
      simp [-eq_ii, -lt_ii, h4, h2, eqk, lT1, ltT]
    | false =>
      rw [c1] at eqk
      simp [-eq_ii, h4, eqk]
  obtain ⟨T1, hT1⟩ : ∃ T1, T1 = D.lst true (T.map entT) := ⟨_, rfl⟩
  obtain ⟨MM, hMM⟩ : ∃ MM, MM = macD false mv gd := ⟨_, rfl⟩
  obtain ⟨HH, hHH⟩ : ∃ HH, HH = houD false h L := ⟨_, rfl⟩
  rw [← hHH] at td tm fH fH2
  rw [← hT1] at td cond
  rw [← hMM] at fM
  generalize macD true mv gd = MT at *
  generalize houD true h L = HT at *
  have s1 : fAsg (fCallF 1 m__law_house (fCons (fCall 1 m__law_bag (fCons (fCall 2 m__law_cell (fCons (fVar 0) (fCons (fK (.int 0)) fNil))) fNil)) fNil)) (gN 1) ([SC].map some ++ List.replicate (16 - [SC].length) none) = .nx [some SC, some HT, none, none, none, none, none, none, none, none, none, none, none, none, none, none] := by simp [fSC, ce0, tb0, th, apF]
  have s2 : fAsg (fCallF 2 m__law_drawn_table (fCons (fCall 1 m__law_bag (fCons (fCall 2 m__law_cell (fCons (fVar 0) (fCons (fK (.int 1)) fNil))) fNil)) (fCons (fVar 1) fNil))) (gN 2) [some SC, some HT, none, none, none, none, none, none, none, none, none, none, none, none, none, none] = .nx [some SC, some HH, some T1, none, none, none, none, none, none, none, none, none, none, none, none, none] := by simp [fSC, fH, fH2, ce1, tc0, td, apF]
  have s3 : fAsg (fCall 1 m__law_bag (fCons (fCall 2 m__law_cell (fCons (fVar 0) (fCons (fK (.int 2)) fNil))) fNil)) (gN 3) [some SC, some HH, some T1, none, none, none, none, none, none, none, none, none, none, none, none, none] = .nx [some SC, some HH, some T1, some d0, none, none, none, none, none, none, none, none, none, none, none, none] := by simp [fSC, ce2, td0]
  have s4 : fAsg (fCallIO 3 2 m__law_take (fCons (fK (.int 2)) fNil)) (gN 4) [some SC, some HH, some T1, some d0, none, none, none, none, none, none, none, none, none, none, none, none] = .nx [some SC, some HH, some T1, some d1, some (.int (kin : Int)), none, none, none, none, none, none, none, none, none, none, none] := by simp [tk]
  have s5 : fAsg (fFz (fCallIO 3 3 m__law_machine (fCons (fVar 1) (fCons (fK (.int 6)) fNil)))) (gN 5) [some SC, some HH, some T1, some d1, some (.int (kin : Int)), none, none, none, none, none, none, none, none, none, none, none] = .nx [some SC, some HH, some T1, some d2, some (.int (kin : Int)), some MM, none, none, none, none, none, none, none, none, none, none] := by simp [fH2, tm, fM]
  show ∃ ρ', fSeq (fAsg (fCallF 1 m__law_house _) _) _ _ = .rt (.bl true) ρ'
  rw [ap_seq]
  erw [s1]
  rw [seq_nx, ap_seq, s2, seq_nx, ap_seq, s3, seq_nx, ap_seq, s4, seq_nx, ap_seq, s5, seq_nx, ap_seq, ap_if, cond _ rfl rfl, rsof_ok]
  subst hT1 hMM hHH
  by_cases cA : (kin : Int) = 1 ∧ (T.length : Int) < 31
  · rw [decide_eq_true cA.1, decide_eq_true cA.2, if_pos (by rfl)]
    obtain ⟨d3, gd', v6, v7, M1, e⟩ := branch_true H Tb (by omega) (SC := SC) (HH := houD false h L) (MM := macD false mv gd) (k := kin) hd2 (by omega)
    rw [e, seq_nx]
    exact tail_true H M1 Tb rfl
  · have : (decide ((kin : Int) = 1) && decide ((T.length : Int) < 31)) = false := by
      rw [Bool.and_eq_false_iff, decide_eq_false_iff_not, decide_eq_false_iff_not]
      by_cases c1 : (kin : Int) = 1
      · exact .inr fun z => cA ⟨c1, z⟩
      · exact .inl c1
    rw [this, if_neg (by simp), ap_next, seq_nx]
    exact tail_true H M0 Tb rfl
end
end Law
open PySem PySem.W PyProof.Rows
set_option pp.maxSteps 20 in
set_option pp.deepTerms false in
set_option maxHeartbeats 0 in
theorem PySem.Challenge.cw_handsapart_k45_rows_apart_holds : PySem.Challenge.rw_handsapart_k45_rows_apart.Holds := by
  w_on; o_law; k_head; (case hw => w_witness2)
  k_fill
  refine Hap.walkD (l := PySem.Challenge.rw_handsapart_k45_rows_apart) (k := 9) (x := "_law_script") (sem := Law.m_law) (RX := Hap.RX0) rfl rfl rfl (by decide) (fun w h Y => by first | exact PySem.W.kIn_of Y | exact PySem.W.km_in_of Y) ?F Law.m_law_true
  case F =>
    intro w mg fa h KX G hmg
    refine' Law.all_mk KX G hmg ?a0 ?l0 ?c0 ?k0 ?a1 ?l1 ?c1 ?k1 ?a2 ?l2 ?c2 ?k2 ?a3 ?l3 ?c3 ?k3 ?a4 ?l4 ?c4 ?k4 ?a5 ?l5 ?c5 ?k5 ?a6 ?l6 ?c6 ?k6 ?a7 ?l7 ?c7 ?k7 ?a8 ?l8 ?c8 ?k8 ?a9 ?l9 ?c9 ?k9 ?a10 ?l10 ?c10 ?k10 ?a11 ?l11 ?c11 ?k11 ?a12 ?l12 ?c12 ?k12 ?a13 ?l13 ?c13 ?k13 ?a14 ?l14 ?c14 ?k14 ?a15 ?l15 ?c15 ?k15 ?a16 ?l16 ?c16 ?k16 ?a17 ?l17 ?c17 ?k17 ?a18 ?l18 ?c18 ?k18 ?a19 ?l19 ?c19 ?k19 ?a20 ?l20 ?c20 ?k20 ?z_abs ?z_all ?z_bool ?z_enumerate ?z_int ?z_isinstance ?z_len ?z_list ?z_range ?z_str ?z_tuple ?z_zip ?e_LETTERS ?e_FEWEST_HANDS ?e_MOST_HANDS ?e_MOST_LETTERS ?e_MOST_ROOMS ?e_MOST
    (case a0 => k_is)
    (case l0 => k_is)
    (case c0 => k_is)
    (case k0 => k_is)
    (case a1 => k_is)
    (case l1 => k_is)
    (case c1 => k_is)
    (case k1 => k_is)
    (case a2 => k_is)
    (case l2 => k_is)
    (case c2 => k_is)
    (case k2 => k_is)
    (case a3 => k_is)
    (case l3 => k_is)
    (case c3 => k_is)
    (case k3 => k_is)
    (case a4 => k_is)
    (case l4 => k_is)
    (case c4 => k_is)
    (case k4 => k_is)
    (case a5 => k_is)
    (case l5 => k_is)
    (case c5 => k_is)
    (case k5 => k_is)
    (case a6 => k_is)
    (case l6 => k_is)
    (case c6 => k_is)
    (case k6 => k_is)
    (case a7 => k_is)
    (case l7 => k_is)
    (case c7 => k_is)
    (case k7 => k_is)
    (case a8 => k_is)
    (case l8 => k_is)
    (case c8 => k_is)
    (case k8 => k_is)
    (case a9 => k_is)
    (case l9 => k_is)
    (case c9 => k_is)
    (case k9 => k_is)
    (case a10 => k_is)
    (case l10 => k_is)
    (case c10 => k_is)
    (case k10 => k_is)
    (case a11 => k_is)
    (case l11 => k_is)
    (case c11 => k_is)
    (case k11 => k_is)
    (case a12 => k_is)
    (case l12 => k_is)
    (case c12 => k_is)
    (case k12 => k_is)
    (case a13 => k_is)
    (case l13 => k_is)
    (case c13 => k_is)
    (case k13 => k_is)
    (case a14 => k_is)
    (case l14 => k_is)
    (case c14 => k_is)
    (case k14 => k_is)
    (case a15 => k_is)
    (case l15 => k_is)
    (case c15 => k_is)
    (case k15 => k_is)
    (case a16 => k_is)
    (case l16 => k_is)
    (case c16 => k_is)
    (case k16 => k_is)
    (case a17 => k_is)
    (case l17 => k_is)
    (case c17 => k_is)
    (case k17 => k_is)
    (case a18 => k_is)
    (case l18 => k_is)
    (case c18 => k_is)
    (case k18 => k_is)
    (case a19 => k_is)
    (case l19 => k_is)
    (case c19 => k_is)
    (case k19 => k_is)
    (case a20 => k_is)
    (case l20 => k_is)
    (case c20 => k_is)
    (case k20 => k_is)
    (case z_abs => k_is)
    (case z_all => k_is)
    (case z_bool => k_is)
    (case z_enumerate => k_is)
    (case z_int => k_is)
    (case z_isinstance => k_is)
    (case z_len => k_is)
    (case z_list => k_is)
    (case z_range => k_is)
    (case z_str => k_is)
    (case z_tuple => k_is)
    (case z_zip => k_is)
    (case e_LETTERS => k_is)
    (case e_FEWEST_HANDS => k_is)
    (case e_MOST_HANDS => k_is)
    (case e_MOST_LETTERS => k_is)
    (case e_MOST_ROOMS => k_is)
    (case e_MOST => k_is)
