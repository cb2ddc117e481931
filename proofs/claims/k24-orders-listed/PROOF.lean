import PyProof.Rows.All
import Wide.All
import OpenK.AllK
import Wide.FinOn
import HandS.ForMost
import HandS.ForExc
import HandS.Deep
import HandS.CallSlots
import HandS.ExcCtx
import HandS.Lambda
import HandS.IsInst
import HandS.TupLe
import HandS.Style
import HandS.WideBits
import KE.GoesMore
import HandS.Strs
import HandS.SetFor
import HandS.Zip
import KE.DataMinMax
import KE.SortData
import HandS.Small
import HandS.Text
import PyProof.StrBlock2
import HandS.HotCalls
import KE.KExcIs
import HandS.EndTab
import KE.KDictZip
import HandS.TupSets
import KE.KDictKeyed
import KE.SortKeyHeap
import HandS.Conv
import HandS.NoneIn
import HandS.More
import HandS.TupAny
import HandS.TupLen
import PyProof.Rows.SortShellAny
import PySem.Challenge.RW_handsapart_k24_orders_listed
set_option autoImplicit false
set_option Elab.async false
set_option linter.all false
set_option maxRecDepth 100000
namespace Hap
open PySem PySem.Spec PyProof.Rows L2
abbrev AS := Addr → Prop
/-- the tables of code objects that stand in the heap, with the names of their codes -/
class TabC where
  T : List (Addr × Str)
/-- not such a table -/
def NT (o : HO) : Prop := ∀ ps, o ≠ .tbl ps
theorem nt_lst {vs} : NT (.lst vs) := fun _ z => nomatch z
theorem nt_tup {vs} : NT (.tup vs) := fun _ z => nomatch z
theorem nt_dK {vs} : NT (.dK vs) := fun _ z => nomatch z
theorem nt_dT {vs} : NT (.dT vs) := fun _ z => nomatch z
theorem nt_ins {C dx fs} : NT (.ins C dx fs) := fun _ z => nomatch z
theorem nt_frz {o u} : NT (.frz o u) := fun _ z => nomatch z
/-- a thing that may be written -/
inductive Nd : HO → Prop
  | lst {vs} : Nd (.lst vs)
  | dK {k} : Nd (.dK k)
  | dT {k} : Nd (.dT k)
  | ins {C dx fs} : Nd (.ins C dx fs)
theorem tabs_write0 {T : List (Addr × Str)} {H : Hp} {a : Addr} {o u : HO} (t : LamX.Tabs T H) (e : H a = some u) (n : Nd u) : LamX.Tabs T (upd H a o) := fun p hp => by
  obtain ⟨ps, h1, h2, h3⟩ := t p hp
  have ne : ∀ {b : Addr} {w : HO}, H b = some w → w ≠ u → b ≠ a := fun {b w} hb hw z => by
    subst z
    rw [e] at hb
    exact hw (Option.some.inj hb).symm
  refine ⟨ps, by rw [upd_ne (ne h1 fun z => by cases n <;> cases z)]; exact h1, h2, fun pos cv hc => ?_⟩
  obtain ⟨c, e1, e2⟩ := h3 pos cv hc
  refine ⟨c, e1, ?_⟩
  rw [upd_ne (ne e2 fun z => by unfold LamX.CodeO at z; cases n <;> cases z)]
  exact e2
inductive D where
  | non
  | bl (b : Bool)
  | int (i : Int)
  | str (x : Str)
  | lst (o : Bool) (xs : List D)
  | tup (xs : List D)
  | dct (o : Bool) (ks : List Key) (xs : List D)
  | dcT (o : Bool) (ks : List (List Key)) (xs : List D)
  | rol (xs : List D)
  | gv (v : V)
  | obj (o : Bool) (C : Addr) (ns : List Str) (xs : List D)
theorem tabs_new0 {T : List (Addr × Str)} {H : Hp} {a : Addr} {o : HO} (e : H a = none) (t : LamX.Tabs T H) : LamX.Tabs T (upd H a o) := t.ext fun b u q => by rw [upd_ne (ne_of_none q e)]; exact q
theorem rd_mono {H H' : Hp} {a : Addr} {u : HO} (r : Rd H a u) (h1 : H a = some u → H' a = some u) (h2 : ∀ o, H a = some (.frz o u) → H' a = some (.frz o u)) : Rd H' a u := r.elim (fun e => .inl (h1 e)) fun ⟨o, e⟩ => .inr ⟨o, h2 o e⟩
theorem DGet.kR {H : Hp} {a : Addr} {kvs : List (Key × V)} {k : Key} (e : Rd H a (.dK kvs)) : DGet H a (kV k) (valV kvs k) := .inl ⟨kvs, k, e, rfl, rfl⟩
theorem DGet.tR {H : Hp} {a b : Addr} {kvs : List (List Key × V)} {k : List Key} (e : Rd H a (.dT kvs)) (eb : H b = some (.tup (k.map kV))) : DGet H a (.ref b) (valV kvs k) := .inr ⟨kvs, k, b, e, rfl, eb, rfl⟩
mutual
/-- no node of one's own -/
def isImm : D → Bool
  | .lst o xs => !o && isImms xs
  | .tup xs => isImms xs
  | .dct o _ xs => !o && isImms xs
  | .dcT o _ xs => !o && isImms xs
  | .rol xs => isImms xs
  | .obj o _ _ xs => !o && isImms xs
  | _ => true
def isImms : List D → Bool
  | [] => true
  | d :: ds => isImm d && isImms ds
end
mutual
/-- all nodes given up -/
def frz : D → D
  | .lst _ xs => .lst false (frzs xs)
  | .tup xs => .tup (frzs xs)
  | .dct _ ks xs => .dct false ks (frzs xs)
  | .dcT _ ks xs => .dcT false ks (frzs xs)
  | .rol xs => .rol (frzs xs)
  | .non => .non
  | .bl b => .bl b
  | .int i => .int i
  | .str x => .str x
  | .gv v => .gv v
  | .obj _ C ns xs => .obj false C ns (frzs xs)
def frzs : List D → List D
  | [] => []
  | d :: ds => frz d :: frzs ds
end
/-- an address that is read, not by the heap of the program's own making: frozen, or of the module -/
def Rol (K : PySem.W.Frag) (H : Hp) (P : AS) (p : Addr) (vs : List V) : Prop :=
  (P p ∧ (H p = some (.lst vs) ∨ ∃ o, H p = some (.frz o (.lst vs)))) ∨
    ∃ (o : Obj) (its : Array Value) (n : Nat), K.lookup p = some o ∧ o.cls = .type "list" ∧ o.dict = none ∧ o.data = .seq its n ∧ its.size ≤ sizeLine ∧ Vals vs its.toList
mutual
/-- a value that stands for a datum; z: with the ownership (F: at most these addresses are one's own) -/
inductive Rl (z : Bool) (K : PySem.W.Frag) (P : AS) (H : Hp) : D → V → AS → Prop
  | non {F} : Rl z K P H .non .non F
  | bl {b F} : Rl z K P H (.bl b) (.bl b) F
  | int {i F} : Rl z K P H (.int i) (.int i) F
  | str {x F} : Rl z K P H (.str x) (.str x) F
  | lstO {p vs ds F F'} : H p = some (.lst vs) → (z = true → F p) → (∀ b, F' b → F b ∧ b ≠ p) → Rls z K P H ds vs F' → Rl z K P H (.lst true ds) (.ref p) F
  | lstI {p vs ds F} : H p = some (.lst vs) → P p → isImms ds = true → Rls z K P H ds vs (fun _ => False) → Rl z K P H (.lst false ds) (.ref p) F
  | tup {p vs ds F} : H p = some (.tup vs) → P p → Rls z K P H ds vs F → Rl z K P H (.tup ds) (.ref p) F
  | dctO {p kvs ks vs ds F F'} : H p = some (.dK kvs) → kvs = List.zip ks vs → ks.length = vs.length → (z = true → F p) → (∀ b, F' b → F b ∧ b ≠ p) → Rls z K P H ds vs F' → Rl z K P H (.dct true ks ds) (.ref p) F
  | dctI {p kvs ks vs ds F} : Rd H p (.dK kvs) → kvs = List.zip ks vs → ks.length = vs.length → P p → isImms ds = true → Rls z K P H ds vs (fun _ => False) → Rl z K P H (.dct false ks ds) (.ref p) F
  | dcTO {p kvs ks vs ds F F'} : H p = some (.dT kvs) → kvs = List.zip ks vs → ks.length = vs.length → (z = true → F p) → (∀ b, F' b → F b ∧ b ≠ p) → Rls z K P H ds vs F' → Rl z K P H (.dcT true ks ds) (.ref p) F
  | dcTI {p kvs ks vs ds F} : Rd H p (.dT kvs) → kvs = List.zip ks vs → ks.length = vs.length → P p → isImms ds = true → Rls z K P H ds vs (fun _ => False) → Rl z K P H (.dcT false ks ds) (.ref p) F
  | rol {p vs ds F} : Rol K H P p vs → isImms ds = true → Rls z K P H ds vs (fun _ => False) → Rl z K P H (.rol ds) (.ref p) F
  | gv {v F} : Rl z K P H (.gv v) v F
  | objO {p C dx fs ns vs ds F F'} : H p = some (.ins C dx fs) → fs = List.zip ns vs → ns.length = vs.length → (z = true → F p) → (∀ b, F' b → F b ∧ b ≠ p) → Rls z K P H ds vs F' → Rl z K P H (.obj true C ns ds) (.ref p) F
  | objI {p C dx fs ns vs ds F} : H p = some (.ins C dx fs) → fs = List.zip ns vs → ns.length = vs.length → P p → isImms ds = true → Rls z K P H ds vs (fun _ => False) → Rl z K P H (.obj false C ns ds) (.ref p) F
inductive Rls (z : Bool) (K : PySem.W.Frag) (P : AS) (H : Hp) : List D → List V → AS → Prop
  | nil {F} : Rls z K P H [] [] F
  | cons {d v ds vs F F1 F2} : Rl z K P H d v F1 → Rls z K P H ds vs F2 → (∀ b, F1 b → F b) → (∀ b, F2 b → F b) → (∀ b, F1 b → F2 b → False) → Rls z K P H (d :: ds) (v :: vs) F
end
section
variable {z z' : Bool} {K : PySem.W.Frag} {P P' : AS} {H H' : Hp} {F F' : AS} {d : D} {v : V} {ds : List D} {vs : List V}
theorem Rol.mono {p : Addr} (h : Rol K H P p vs) (hP : ∀ b, P b → P' b) (hH : ∀ b o, H b = some o → (z = true → P b ∨ F b) → NT o → H' b = some o) : Rol K H' P' p vs := by
  rcases h with ⟨hp, e | ⟨o, e⟩⟩ | h
  · exact .inl ⟨hP _ hp, .inl (hH _ _ e (fun _ => .inl hp) nt_lst)⟩
  · exact .inl ⟨hP _ hp, .inr ⟨o, hH _ _ e (fun _ => .inl hp) nt_frz⟩⟩
  · exact .inr h
mutual
theorem rl_mono {z : Bool} {K : PySem.W.Frag} {P P' : AS} {H H' : Hp} {F F' : AS} {d : D} {v : V} (h : Rl z K P H d v F) (hP : ∀ b, P b → P' b) (hH : ∀ b o, H b = some o → (z = true → P b ∨ F b) → NT o → H' b = some o) (hF : ∀ b, F b → F' b) : Rl z K P' H' d v F' := by
  cases h with
  | non => exact .non
  | bl => exact .bl
  | int => exact .int
  | str => exact .str
  | lstO e f s r => exact .lstO (hH _ _ e (fun q => .inr (f q)) nt_lst) (fun q => hF _ (f q)) (fun b q => ⟨hF _ (s b q).1, (s b q).2⟩) (rls_mono r hP (fun b o e q => hH b o e fun w => (q w).imp id fun t => (s b t).1) fun _ q => q)
  | lstI e p i r => exact .lstI (hH _ _ e (fun _ => .inl p) nt_lst) (hP _ p) i (rls_mono r hP (fun b o e q => hH b o e fun w => (q w).imp id fun t => t.elim) fun _ q => q)
  | tup e p r => exact .tup (hH _ _ e (fun _ => .inl p) nt_tup) (hP _ p) (rls_mono r hP hH hF)
  | dctO e k l f s r => exact .dctO (hH _ _ e (fun q => .inr (f q)) nt_dK) k l (fun q => hF _ (f q)) (fun b q => ⟨hF _ (s b q).1, (s b q).2⟩) (rls_mono r hP (fun b o e q => hH b o e fun w => (q w).imp id fun t => (s b t).1) fun _ q => q)
  | dctI e k l p i r => exact .dctI (rd_mono e (fun e => hH _ _ e (fun _ => .inl p) nt_dK) fun o e => hH _ _ e (fun _ => .inl p) nt_frz) k l (hP _ p) i (rls_mono r hP (fun b o e q => hH b o e fun w => (q w).imp id fun t => t.elim) fun _ q => q)
  | dcTO e k l f s r => exact .dcTO (hH _ _ e (fun q => .inr (f q)) nt_dT) k l (fun q => hF _ (f q)) (fun b q => ⟨hF _ (s b q).1, (s b q).2⟩) (rls_mono r hP (fun b o e q => hH b o e fun w => (q w).imp id fun t => (s b t).1) fun _ q => q)
  | dcTI e k l p i r => exact .dcTI (rd_mono e (fun e => hH _ _ e (fun _ => .inl p) nt_dT) fun o e => hH _ _ e (fun _ => .inl p) nt_frz) k l (hP _ p) i (rls_mono r hP (fun b o e q => hH b o e fun w => (q w).imp id fun t => t.elim) fun _ q => q)
  | rol e i r => exact .rol (Rol.mono e hP hH) i (rls_mono r hP (fun b o e q => hH b o e fun w => (q w).imp id fun t => t.elim) fun _ q => q)
  | gv => exact .gv
  | objO e k l f s r => exact .objO (hH _ _ e (fun q => .inr (f q)) nt_ins) k l (fun q => hF _ (f q)) (fun b q => ⟨hF _ (s b q).1, (s b q).2⟩) (rls_mono r hP (fun b o e q => hH b o e fun w => (q w).imp id fun t => (s b t).1) fun _ q => q)
  | objI e k l p i r => exact .objI (hH _ _ e (fun _ => .inl p) nt_ins) k l (hP _ p) i (rls_mono r hP (fun b o e q => hH b o e fun w => (q w).imp id fun t => t.elim) fun _ q => q)
theorem rls_mono {z : Bool} {K : PySem.W.Frag} {P P' : AS} {H H' : Hp} {F F' : AS} {ds : List D} {vs : List V} (h : Rls z K P H ds vs F) (hP : ∀ b, P b → P' b) (hH : ∀ b o, H b = some o → (z = true → P b ∨ F b) → NT o → H' b = some o) (hF : ∀ b, F b → F' b) : Rls z K P' H' ds vs F' := by
  cases h with
  | nil => exact .nil
  | cons r rs s1 s2 dj => exact .cons (rl_mono r hP (fun b o e q => hH b o e fun w => (q w).imp id (s1 b)) fun _ q => q) (rls_mono rs hP (fun b o e q => hH b o e fun w => (q w).imp id (s2 b)) fun _ q => q) (fun b q => hF _ (s1 b q)) (fun b q => hF _ (s2 b q)) dj
end
mutual
theorem rl_view {z : Bool} {K : PySem.W.Frag} {P : AS} {H : Hp} {F F' : AS} {d : D} {v : V} (h : Rl z K P H d v F) : Rl false K P H d v F' := by
  cases h with
  | non => exact .non
  | bl => exact .bl
  | int => exact .int
  | str => exact .str
  | lstO e f s r => exact .lstO (F' := fun _ => False) e (fun q => by cases q) (fun b q => q.elim) (rls_view r)
  | lstI e p i r => exact .lstI e p i (rls_view r)
  | tup e p r => exact .tup e p (rls_view r)
  | dctO e k l f s r => exact .dctO (F' := fun _ => False) e k l (fun q => by cases q) (fun b q => q.elim) (rls_view r)
  | dctI e k l p i r => exact .dctI e k l p i (rls_view r)
  | dcTO e k l f s r => exact .dcTO (F' := fun _ => False) e k l (fun q => by cases q) (fun b q => q.elim) (rls_view r)
  | dcTI e k l p i r => exact .dcTI e k l p i (rls_view r)
  | rol e i r => exact .rol e i (rls_view r)
  | gv => exact .gv
  | objO e k l f s r => exact .objO (F' := fun _ => False) e k l (fun q => by cases q) (fun b q => q.elim) (rls_view r)
  | objI e k l p i r => exact .objI e k l p i (rls_view r)
theorem rls_view {z : Bool} {K : PySem.W.Frag} {P : AS} {H : Hp} {F F' : AS} {ds : List D} {vs : List V} (h : Rls z K P H ds vs F) : Rls false K P H ds vs F' := by
  cases h with
  | nil => exact .nil
  | cons r rs s1 s2 dj => exact .cons (F1 := fun _ => False) (F2 := fun _ => False) (rl_view r) (rls_view rs) (fun b q => q.elim) (fun b q => q.elim) fun _ q => q.elim
end
mutual
theorem rl_imm {z z' : Bool} {K : PySem.W.Frag} {P : AS} {H : Hp} {F F' : AS} {d : D} {v : V} (h : Rl z K P H d v F) (i : isImm d = true) : Rl z' K P H d v F' := by
  cases h with
  | non => exact .non
  | bl => exact .bl
  | int => exact .int
  | str => exact .str
  | lstO e f s r => simp [isImm] at i
  | lstI e p i r => exact .lstI e p i (rls_imm r i)
  | tup e p r => exact .tup e p (rls_imm r (by simpa [isImm] using i))
  | dctO e k l f s r => simp [isImm] at i
  | dctI e k l p i r => exact .dctI e k l p i (rls_imm r i)
  | dcTO e k l f s r => simp [isImm] at i
  | dcTI e k l p i r => exact .dcTI e k l p i (rls_imm r i)
  | rol e i r => exact .rol e i (rls_imm r i)
  | gv => exact .gv
  | objO e k l f s r => simp [isImm] at i
  | objI e k l p i r => exact .objI e k l p i (rls_imm r i)
theorem rls_imm {z z' : Bool} {K : PySem.W.Frag} {P : AS} {H : Hp} {F F' : AS} {ds : List D} {vs : List V} (h : Rls z K P H ds vs F) (i : isImms ds = true) : Rls z' K P H ds vs F' := by
  cases h with
  | nil => exact .nil
  | cons r rs s1 s2 dj =>
    simp only [isImms, Bool.and_eq_true] at i
    exact .cons (F1 := fun _ => False) (F2 := fun _ => False) (rl_imm r i.1) (rls_imm rs i.2) (fun b q => q.elim) (fun b q => q.elim) fun _ q => q.elim
end
mutual
theorem isImm_frz : ∀ d : D, isImm (frz d) = true
  | .non => rfl
  | .bl _ => rfl
  | .int _ => rfl
  | .str _ => rfl
  | .lst _ xs => by simp only [frz, isImm, isImms_frzs xs]; rfl
  | .tup xs => by simp only [frz, isImm, isImms_frzs xs]
  | .dct _ _ xs => by simp only [frz, isImm, isImms_frzs xs]; rfl
  | .dcT _ _ xs => by simp only [frz, isImm, isImms_frzs xs]; rfl
  | .rol xs => by simp only [frz, isImm, isImms_frzs xs]
  | .gv _ => rfl
  | .obj _ _ _ xs => by simp only [frz, isImm, isImms_frzs xs]; rfl
theorem isImms_frzs : ∀ ds : List D, isImms (frzs ds) = true
  | [] => rfl
  | d :: ds => by simp only [frzs, isImms, isImm_frz d, isImms_frzs ds]; rfl
end
mutual
theorem rl_frz {z : Bool} {K : PySem.W.Frag} {P P' : AS} {H : Hp} {F F' : AS} {d : D} {v : V} (h : Rl true K P H d v F) (hP : ∀ b, P b → P' b) (hF : ∀ b, F b → P' b) : Rl z K P' H (frz d) v F' := by
  cases h with
  | non => exact .non
  | bl => exact .bl
  | int => exact .int
  | str => exact .str
  | lstO e f s r => exact .lstI e (hF _ (f rfl)) (isImms_frzs _) (rls_frz r hP fun b q => hF _ (s b q).1)
  | lstI e p i r => exact .lstI e (hP _ p) (isImms_frzs _) (rls_frz r hP fun b q => q.elim)
  | tup e p r => exact .tup e (hP _ p) (rls_frz r hP hF)
  | dctO e k l f s r => exact .dctI (.inl e) k l (hF _ (f rfl)) (isImms_frzs _) (rls_frz r hP fun b q => hF _ (s b q).1)
  | dctI e k l p i r => exact .dctI e k l (hP _ p) (isImms_frzs _) (rls_frz r hP fun b q => q.elim)
  | dcTO e k l f s r => exact .dcTI (.inl e) k l (hF _ (f rfl)) (isImms_frzs _) (rls_frz r hP fun b q => hF _ (s b q).1)
  | dcTI e k l p i r => exact .dcTI e k l (hP _ p) (isImms_frzs _) (rls_frz r hP fun b q => q.elim)
  | rol e i r => exact .rol (Rol.mono (z := true) (F := fun _ => False) e hP fun b o e _ _ => e) (isImms_frzs _) (rls_frz r hP fun b q => q.elim)
  | gv => exact .gv
  | objO e k l f s r => exact .objI e k l (hF _ (f rfl)) (isImms_frzs _) (rls_frz r hP fun b q => hF _ (s b q).1)
  | objI e k l p i r => exact .objI e k l (hP _ p) (isImms_frzs _) (rls_frz r hP fun b q => q.elim)
theorem rls_frz {z : Bool} {K : PySem.W.Frag} {P P' : AS} {H : Hp} {F F' : AS} {ds : List D} {vs : List V} (h : Rls true K P H ds vs F) (hP : ∀ b, P b → P' b) (hF : ∀ b, F b → P' b) : Rls z K P' H (frzs ds) vs F' := by
  cases h with
  | nil => exact .nil
  | cons r rs s1 s2 dj => exact .cons (F1 := fun _ => False) (F2 := fun _ => False) (rl_frz r hP fun b q => hF _ (s1 b q)) (rls_frz rs hP fun b q => hF _ (s2 b q)) (fun b q => q.elim) (fun b q => q.elim) fun _ q => q.elim
end
theorem rls_len {z : Bool} {K : PySem.W.Frag} {P : AS} {H : Hp} : ∀ {ds : List D} {vs : List V} {F : AS}, Rls z K P H ds vs F → ds.length = vs.length
  | _, _, _, .nil => rfl
  | _, _, _, .cons _ t _ _ _ => congrArg (· + 1) (rls_len t)
theorem rls_get {z : Bool} {K : PySem.W.Frag} {P : AS} {H : Hp} : ∀ {ds : List D} {vs : List V} {F : AS} {i : Nat} {d : D}, Rls z K P H ds vs F → ds[i]? = some d → ∃ v, vs[i]? = some v ∧ Rl z K P H d v F
  | _, _, _, _, _, .nil, e => by simp at e
  | _, _, _, 0, _, .cons r _ s1 _ _, e => by
    simp at e; subst e
    exact ⟨_, rfl, rl_mono r (fun _ q => q) (fun _ _ e _ _ => e) s1⟩
  | _, _, _, i + 1, _, .cons _ t _ s2 _, e => by
    obtain ⟨v, e1, r⟩ := rls_get (i := i) t (by simpa using e)
    exact ⟨v, by simpa using e1, rl_mono r (fun _ q => q) (fun _ _ e _ _ => e) s2⟩
end
end Hap
namespace Hap
open PySem PySem.Spec PyProof.Rows L2
abbrev Ev := List (Option D)
/-- an exception as a datum: its class's name, its fields -/
structure DX where
  cls : Str
  args : List D
inductive R (α : Type) where
  | ok (a : α) (ρ : Ev)
  | exc (x : DX) (ρ : Ev)
  | stk
inductive RS where
  | nx (ρ : Ev)
  | rt (d : D) (ρ : Ev)
  | bk (ρ : Ev)
  | ct (ρ : Ev)
  | exc (x : DX) (ρ : Ev)
  | stk
abbrev FP := Nat → AS
def U (FE : FP) : AS := fun b => ∃ i, FE i b
/-- a tuple, or a table of code objects -/
def IsTT (o : Option HO) : Prop := (∃ vs, o = some (.tup vs)) ∨ ∃ ps, o = some (.tbl ps)
theorem IsTT.nd {o : HO} (h : IsTT (some o)) (n : Nd o) : False := by
  rcases h with ⟨vs, e⟩ | ⟨ps, e⟩ <;> cases e <;> cases n
theorem IsTT.none (h : IsTT none) : False := by
  rcases h with ⟨vs, e⟩ | ⟨ps, e⟩ <;> cases e
/-- the known tables; each tuple and each table is given up -/
def TAB [TabC] (P : AS) (H : Hp) : Prop := LamX.Tabs TabC.T H ∧ ∀ b, IsTT (H b) → P b
theorem TAB.mono [TabC] {P P' : AS} {H : Hp} (t : TAB P H) (h : ∀ b, P b → P' b) : TAB P' H := ⟨t.1, fun b e => h b (t.2 b e)⟩
theorem TAB.all [TabC] {H : Hp} (t : LamX.Tabs TabC.T H) : TAB (fun b => H b ≠ none) H := ⟨t, fun b e => fun z => by rw [z] at e; exact e.none⟩
theorem TAB.upd [TabC] {P P' : AS} {H : Hp} {a : Addr} {o : HO} (t : TAB P H) (t0 : LamX.Tabs TabC.T (upd H a o)) (h : ∀ b, P b → P' b) (no : IsTT (some o) → P' a) : TAB P' (upd H a o) := ⟨t0, fun b e => by
  by_cases c : b = a
  · subst c; rw [upd_same] at e; exact no e
  · rw [upd_ne c] at e; exact h b (t.2 b e)⟩
theorem tabs_write [TabC] {P : AS} {H : Hp} {a : Addr} {o u : HO} (t : TAB P H) (e : H a = some u) (n : Nd u) (no : Nd o := by constructor) : TAB P (upd H a o) := t.upd (tabs_write0 t.1 e n) (fun _ z => z) fun z => (z.nd no).elim
theorem tabs_new [TabC] {P : AS} {H : Hp} {a : Addr} {o : HO} (e : H a = none) (t : TAB P H) (no : ¬ IsTT (some o) := by exact fun z => z.nd (by constructor)) : TAB P (upd H a o) := t.upd (tabs_new0 e t.1) (fun _ z => z) fun z => (no z).elim
/-- what a step that leaves what was there gives up at least -/
def pinN (P : AS) (H H2 : Hp) : AS := fun b => P b ∨ (H b = none ∧ IsTT (H2 b))
theorem TAB.step [TabC] {P P2 : AS} {H H2 : Hp} (t : TAB P H) (t2 : LamX.Tabs TabC.T H2) (fr : ∀ b o, H b = some o → NT o → H2 b = some o) (h : ∀ b, P b → P2 b) (h1 : ∀ b, H b = none → IsTT (H2 b) → P2 b) : TAB P2 H2 := by
  refine ⟨t2, fun b e => ?_⟩
  cases c : H b with
  | none => exact h1 b c e
  | some o =>
    by_cases n : NT o
    · rw [fr b o c n, ← c] at e; exact h b (t.2 b e)
    · unfold NT at n
      obtain ⟨ps, hp⟩ := Classical.not_forall.mp n
      have hp := Classical.not_not.mp hp
      subst hp
      exact h b (t.2 b (.inr ⟨ps, c⟩))
theorem TAB.pinN [TabC] {P : AS} {H H2 : Hp} (t : TAB P H) (t2 : LamX.Tabs TabC.T H2) (fr : ∀ b o, H b = some o → NT o → H2 b = some o) : TAB (pinN P H H2) H2 := t.step t2 fr (fun _ z => .inl z) fun b z w => .inr ⟨z, w⟩
structure Stt [TabC] (K : PySem.W.Frag) (P : AS) (H : Hp) (ρ : Ev) (σ : L2.St) (FE : FP) : Prop where
  pin : ∀ b, P b → H b ≠ none
  fin : ∀ i b, FE i b → H b ≠ none ∧ ¬ P b
  dj : ∀ i j b, FE i b → FE j b → i = j
  rel : ∀ i d, ρ[i]? = some (some d) → ∃ v, σ[i]? = some (some v) ∧ Rl true K P H d v (FE i)
  len : ρ.length = σ.length
  tab : TAB P H
/-- a step of the heap: what is not in U stays; what is given up (P) or in use behind it (U') was in U or is new -/
structure Tr (P : AS) (H : Hp) (U : AS) (P' : AS) (H' : Hp) (U' : AS) : Prop where
  frame : ∀ b o, H b = some o → ¬ U b → NT o → H' b = some o
  mono : ∀ b, P b → P' b
  back : ∀ b, P' b → P b ∨ U b ∨ H b = none
  sub : ∀ b, U' b → U b ∨ H b = none
  alive : ∀ b, H b ≠ none → H' b ≠ none
structure Tmp (K : PySem.W.Frag) (P : AS) (H : Hp) (FE : FP) (d : D) (v : V) (F : AS) : Prop where
  rl : Rl true K P H d v F
  own : ∀ b, F b → H b ≠ none ∧ ¬ P b ∧ ¬ U FE b
structure Tmps (K : PySem.W.Frag) (P : AS) (H : Hp) (FE : FP) (ds : List D) (vs : List V) (F : AS) : Prop where
  rl : Rls true K P H ds vs F
  own : ∀ b, F b → H b ≠ none ∧ ¬ P b ∧ ¬ U FE b
section
variable [TabC] {K : PySem.W.Frag} {P P' P1 P2 : AS} {H H' H1 H2 : Hp} {U0 U' U1 U2 F F1 : AS} {FE FE1 FE2 : FP} {ρ ρ1 : Ev} {σ : L2.St} {d : D} {v : V} {ds : List D} {vs : List V}
theorem Tr.refl : Tr P H U0 P H U0 := ⟨fun _ _ e _ _ => e, fun _ q => q, fun _ q => .inl q, fun _ q => .inl q, fun _ q => q⟩
theorem Tr.seq (a : Tr P H U0 P1 H1 (fun b => U1 b ∨ F1 b)) (c : Tr P1 H1 U1 P2 H2 U2) : Tr P H U0 P2 H2 (fun b => U2 b ∨ F1 b) where
  frame := fun b o e n nt => c.frame b o (a.frame b o e n nt) (fun q => (a.sub b (.inl q)).elim n (fun z => by rw [e] at z; cases z)) nt
  mono := fun b q => c.mono b (a.mono b q)
  back := fun b q => by
    rcases c.back b q with q | q | q
    · exact a.back b q
    · exact (a.sub b (.inl q)).elim (fun z => .inr (.inl z)) fun z => .inr (.inr z)
    · refine .inr (.inr ?_)
      cases e : H b with
      | none => rfl
      | some o => exact absurd q (a.alive b (by rw [e]; simp))
  sub := fun b q => by
    rcases q with q | q
    · rcases c.sub b q with q | q
      · exact a.sub b (.inl q)
      · refine .inr ?_
        cases e : H b with
        | none => rfl
        | some o => exact absurd q (a.alive b (by rw [e]; simp))
    · exact a.sub b (.inr q)
  alive := fun b q => c.alive b (a.alive b q)
theorem Tr.less (a : Tr P H U0 P1 H1 U1) (h : ∀ b, U2 b → U1 b) : Tr P H U0 P1 H1 U2 := ⟨a.frame, a.mono, a.back, fun b q => a.sub b (h b q), a.alive⟩
theorem Tr.trans (a : Tr P H U0 P1 H1 U1) (c : Tr P1 H1 U1 P2 H2 U2) : Tr P H U0 P2 H2 U2 :=
  (Tr.seq (F1 := fun _ => False) (a.less fun b q => q.elim id False.elim) c).less fun b q => .inl q
/-- what is at hand stays through a step that does not own it -/
theorem Tmp.step (t : Tmp K P1 H1 FE1 d v F1) (S : Stt K P1 H1 ρ1 σ FE1) (c : Tr P1 H1 (U FE1) P2 H2 (fun b => U FE2 b ∨ F b)) : Tmp K P2 H2 FE2 d v F1 ∧ ∀ b, F1 b → F b → False := by
  refine ⟨⟨rl_mono t.rl c.mono (fun b o e q => c.frame b o e fun ⟨i, z⟩ => ?_) fun _ q => q, fun b q => ?_⟩, fun b q z => ?_⟩
  · rcases q rfl with q | q
    · exact (S.fin i b z).2 q
    · exact (t.own b q).2.2 ⟨i, z⟩
  · obtain ⟨h1, h2, h3⟩ := t.own b q
    exact ⟨c.alive b h1, fun z => (c.back b z).elim h2 (fun z => z.elim h3 h1), fun z => (c.sub b (.inl z)).elim h3 h1⟩
  · obtain ⟨h1, h2, h3⟩ := t.own b q
    exact (c.sub b (.inr z)).elim h3 h1
theorem Tmps.step (t : Tmps K P1 H1 FE1 ds vs F1) (S : Stt K P1 H1 ρ1 σ FE1) (c : Tr P1 H1 (U FE1) P2 H2 (fun b => U FE2 b ∨ F b)) : Tmps K P2 H2 FE2 ds vs F1 ∧ ∀ b, F1 b → F b → False := by
  refine ⟨⟨rls_mono t.rl c.mono (fun b o e q => c.frame b o e fun ⟨i, z⟩ => ?_) fun _ q => q, fun b q => ?_⟩, fun b q z => ?_⟩
  · rcases q rfl with q | q
    · exact (S.fin i b z).2 q
    · exact (t.own b q).2.2 ⟨i, z⟩
  · obtain ⟨h1, h2, h3⟩ := t.own b q
    exact ⟨c.alive b h1, fun z => (c.back b z).elim h2 (fun z => z.elim h3 h1), fun z => (c.sub b (.inl z)).elim h3 h1⟩
  · obtain ⟨h1, h2, h3⟩ := t.own b q
    exact (c.sub b (.inr z)).elim h3 h1
/-- only new things come -/
structure New [TabC] (P : AS) (H : Hp) (P' : AS) (H' : Hp) (F : AS) : Prop where
  same : ∀ b o, H b = some o → NT o → H' b = some o
  alive : ∀ b, H b ≠ none → H' b ≠ none
  tab : TAB P H → TAB P' H'
  mono : ∀ b, P b → P' b
  back : ∀ b, P' b → P b ∨ (H b = none ∧ H' b ≠ none)
  own : ∀ b, F b → H b = none ∧ H' b ≠ none ∧ ¬ P' b
theorem New.refl : New P H P H (fun _ => False) := ⟨fun _ _ e _ => e, fun _ q => q, id, fun _ q => q, fun _ q => .inl q, fun _ q => q.elim⟩
theorem New.less (n : New P H P' H' F) (h : ∀ b, F1 b → F b) : New P H P' H' F1 := ⟨n.same, n.alive, n.tab, n.mono, n.back, fun b q => n.own b (h b q)⟩
theorem New.stt (n : New P H P' H' F) (S : Stt K P H ρ σ FE) : Stt K P' H' ρ σ FE where
  pin := fun b q => by
    rcases n.back b q with z | z
    · exact n.alive b (S.pin b z)
    · exact z.2
  fin := fun i b q => by
    obtain ⟨h1, h2⟩ := S.fin i b q
    exact ⟨n.alive b h1, fun z => (n.back b z).elim h2 fun z => h1 z.1⟩
  dj := S.dj
  rel := fun i d e => by
    obtain ⟨v, e1, r⟩ := S.rel i d e
    exact ⟨v, e1, rl_mono r n.mono (fun b o e _ => n.same b o e) fun _ q => q⟩
  len := S.len
  tab := n.tab S.tab
theorem New.tr (n : New P H P' H' F) : Tr P H U0 P' H' (fun b => U0 b ∨ F b) where
  frame := fun b o e _ => n.same b o e
  mono := n.mono
  back := fun b q => (n.back b q).imp id fun z => .inr z.1
  sub := fun b q => q.imp id fun z => (n.own b z).1
  alive := n.alive
theorem New.tmp (n : New P H P' H' F) (S : Stt K P H ρ σ FE) (r : Rl true K P' H' d v F) : Tmp K P' H' FE d v F :=
  ⟨r, fun b q => ⟨(n.own b q).2.1, (n.own b q).2.2, fun ⟨i, z⟩ => (S.fin i b z).1 (n.own b q).1⟩⟩
theorem New.trans {P3 : AS} {H3 : Hp} {F3 : AS} (n : New P H P1 H1 F1) (m : New P1 H1 P3 H3 F3) : New P H P3 H3 (fun b => F1 b ∨ F3 b) where
  same := fun b o e nt => m.same b o (n.same b o e nt) nt
  alive := fun b q => m.alive b (n.alive b q)
  tab := fun t => m.tab (n.tab t)
  mono := fun b q => m.mono b (n.mono b q)
  back := fun b q => by
    rcases m.back b q with z | z
    · exact (n.back b z).imp id fun w => ⟨w.1, m.alive b w.2⟩
    · refine .inr ⟨?_, z.2⟩
      cases e : H b with
      | none => rfl
      | some o => exact absurd z.1 (n.alive b (by rw [e]; simp))
  own := fun b q => by
    rcases q with q | q
    · obtain ⟨h1, h2, h3⟩ := n.own b q
      exact ⟨h1, m.alive b h2, fun z => (m.back b z).elim h3 fun w => h2 w.1⟩
    · obtain ⟨h1, h2, h3⟩ := m.own b q
      refine ⟨?_, h2, h3⟩
      cases e : H b with
      | none => rfl
      | some o => exact absurd h1 (n.alive b (by rw [e]; simp))
theorem alive_upd {p : Addr} {o : HO} (b : Addr) (h : H b ≠ none) : upd H p o b ≠ none := by
  unfold upd
  split
  · simp
  · exact h
/-- a new list -/
theorem New.lst {p : Addr} {o : HO} (hp : H p = none) (pin : ∀ b, P b → H b ≠ none) (no : Nd o := by constructor) : New P H P (upd H p o) (fun b => b = p) where
  same := fun b u e _ => by rw [upd_ne (ne_of_none e hp)]; exact e
  alive := alive_upd
  tab := fun t => tabs_new hp t fun z => z.nd no
  mono := fun _ q => q
  back := fun _ q => .inl q
  own := fun b q => by
    subst q
    exact ⟨hp, by rw [upd_same]; simp, fun z => pin _ z hp⟩
/-- a new thing given up at once -/
theorem New.tup {p : Addr} {o : HO} (hp : H p = none) : New P H (fun b => P b ∨ b = p) (upd H p o) (fun _ => False) where
  same := fun b u e _ => by rw [upd_ne (ne_of_none e hp)]; exact e
  alive := alive_upd
  tab := fun t => t.upd (tabs_new0 hp t.1) (fun _ z => .inl z) fun _ => .inr rfl
  mono := fun _ q => .inl q
  back := fun b q => q.imp id fun z => by subst z; exact ⟨hp, by rw [upd_same]; simp⟩
  own := fun b q => q.elim
/-- a step that leaves what was there -/
theorem New.pinN {H2 : Hp} (fr : ∀ b o, H b = some o → NT o → H2 b = some o) (al : ∀ b, H b ≠ none → H2 b ≠ none) (tb : LamX.Tabs TabC.T H2) (pin : ∀ b, P b → H b ≠ none) (nw : ∀ b, F b → H b = none ∧ H2 b ≠ none ∧ ¬ IsTT (H2 b)) : New P H (pinN P H H2) H2 F where
  same := fr
  alive := al
  tab := fun t => t.pinN tb fr
  mono := fun _ z => .inl z
  back := fun b z => z.imp id fun w => ⟨w.1, fun e => by rw [e] at w; exact w.2.none⟩
  own := fun b z => ⟨(nw b z).1, (nw b z).2.1, fun w => w.elim (fun w => pin b w (nw b z).1) fun w => (nw b z).2.2 w.2⟩
/-- the things at hand are given up -/
theorem Stt.give (S : Stt K P H ρ σ FE) (h : ∀ b, F b → H b ≠ none ∧ ¬ U FE b) : Stt K (fun b => P b ∨ F b) H ρ σ FE where
  pin := fun b q => q.elim (S.pin b) fun z => (h b z).1
  fin := fun i b q => ⟨(S.fin i b q).1, fun z => z.elim (S.fin i b q).2 fun z => (h b z).2 ⟨i, q⟩⟩
  dj := S.dj
  rel := fun i d e => by
    obtain ⟨v, e1, r⟩ := S.rel i d e
    exact ⟨v, e1, rl_mono r (fun _ q => .inl q) (fun b o e _ _ => e) fun _ q => q⟩
  len := S.len
  tab := S.tab.mono fun _ z => .inl z
theorem Tr.give (a : Tr P H U0 P1 H1 (fun b => U1 b ∨ F b)) : Tr P H U0 (fun b => P1 b ∨ F b) H1 U1 where
  frame := a.frame
  mono := fun b q => .inl (a.mono b q)
  back := fun b q => q.elim (a.back b) fun z => (a.sub b (.inr z)).elim (fun w => .inr (.inl w)) fun w => .inr (.inr w)
  sub := fun b q => a.sub b (.inl q)
  alive := a.alive
/-- a slot is written -/
theorem Stt.set (S : Stt K P H ρ σ FE) (t : Tmp K P H FE d v F) (i : Nat) : Stt K P H (ρ.set i (some d)) (σ.set i (some v)) (fun j => if j = i then F else FE j) where
  pin := S.pin
  fin := fun j b q => by
    by_cases e : j = i
    · rw [if_pos e] at q
      exact ⟨(t.own b q).1, (t.own b q).2.1⟩
    · rw [if_neg e] at q
      exact S.fin j b q
  dj := fun j k b q r => by
    by_cases e : j = i <;> by_cases e' : k = i
    · rw [e, e']
    · rw [if_pos e] at q; rw [if_neg e'] at r
      exact ((t.own b q).2.2 ⟨k, r⟩).elim
    · rw [if_neg e] at q; rw [if_pos e'] at r
      exact ((t.own b r).2.2 ⟨j, q⟩).elim
    · rw [if_neg e] at q; rw [if_neg e'] at r
      exact S.dj j k b q r
  rel := fun j d' e => by
    by_cases h : j = i
    · subst h
      have hl : j < ρ.length := by
        have := (List.getElem?_eq_some_iff.mp e).1
        simpa using this
      rw [List.getElem?_set_self hl] at e
      cases e
      refine ⟨v, by rw [List.getElem?_set_self (by rw [← S.len]; exact hl)], ?_⟩
      rw [if_pos rfl]
      exact t.rl
    · rw [List.getElem?_set_ne (Ne.symm h)] at e
      obtain ⟨w, e1, r⟩ := S.rel j d' e
      refine ⟨w, by rw [List.getElem?_set_ne (Ne.symm h)]; exact e1, ?_⟩
      rw [if_neg h]
      exact r
  len := by simpa using S.len
  tab := S.tab
theorem Stt.set_sub (i : Nat) (b : Addr) (q : U (fun j => if j = i then F else FE j) b) : U FE b ∨ F b := by
  obtain ⟨j, q⟩ := q
  by_cases e : j = i
  · rw [if_pos e] at q; exact .inr q
  · rw [if_neg e] at q; exact .inl ⟨j, q⟩
end
end Hap
namespace Hap
open PySem PySem.Spec PyProof.Rows L2
variable [TabC]
abbrev RXR := DX → AS → Hp → Value → Option Addr → Prop
abbrev E_ : AS := fun _ => False
def tE (K : PySem.W.Frag) (RX : RXR) (W : WX) (f : Ev → R D) : TE := fun σ H Q => ∃ P ρ FE, Stt K P H ρ σ FE ∧ match f ρ with
  | .ok d ρ' => ∀ v P' H' FE' F, Stt K P' H' ρ' σ FE' → Tmp K P' H' FE' d v F → Tr P H (U FE) P' H' (fun b => U FE' b ∨ F b) → Q v H'
  | .exc x ρ' => ∀ cls dx P' H' FE', Stt K P' H' ρ' σ FE' → Tr P H (U FE) P' H' (U FE') → RX x P' H' cls dx → W cls dx σ H'
  | .stk => False
def tV (K : PySem.W.Frag) (f : Ev → Option D) : TE := fun σ H Q => ∃ P ρ FE, Stt K P H ρ σ FE ∧ match f ρ with
  | some d => ∀ v P' H', New P H P' H' E_ → Rl false K P' H' d v E_ → Q v H'
  | none => False
def tA (K : PySem.W.Frag) (RX : RXR) (W : WX) (f : Ev → R (List D)) : TA := fun σ H Q => ∃ P ρ FE, Stt K P H ρ σ FE ∧ match f ρ with
  | .ok ds ρ' => ∀ vs P' H' FE' F, Stt K P' H' ρ' σ FE' → Tmps K P' H' FE' ds vs F → Tr P H (U FE) P' H' (fun b => U FE' b ∨ F b) → Q vs H'
  | .exc x ρ' => ∀ cls dx P' H' FE', Stt K P' H' ρ' σ FE' → Tr P H (U FE) P' H' (U FE') → RX x P' H' cls dx → W cls dx σ H'
  | .stk => False
def tAV (K : PySem.W.Frag) (f : Ev → Option (List D)) : TA := fun σ H Q => ∃ P ρ FE, Stt K P H ρ σ FE ∧ match f ρ with
  | some ds => ∀ vs P' H', New P H P' H' E_ → Rls false K P' H' ds vs E_ → Q vs H'
  | none => False
def tT (K : PySem.W.Frag) (RX : RXR) (W : WX) (f : Ev → R Bool) : TT := fun σ H Q => ∃ P ρ FE, Stt K P H ρ σ FE ∧ match f ρ with
  | .ok b ρ' => ∀ P' H' FE', Stt K P' H' ρ' σ FE' → Tr P H (U FE) P' H' (U FE') → Q b H'
  | .exc x ρ' => ∀ cls dx P' H' FE', Stt K P' H' ρ' σ FE' → Tr P H (U FE) P' H' (U FE') → RX x P' H' cls dx → W cls dx σ H'
  | .stk => False
abbrev DE (X : Cx) (RX : RXR) (W : WX) (e : Expr) (f : Ev → R D) : Prop := PE X e (tE X.K RX W f)
abbrev DV (X : Cx) (e : Expr) (f : Ev → Option D) : Prop := PE X e (tV X.K f)
abbrev DA (X : Cx) (RX : RXR) (W : WX) (es : List Expr) (f : Ev → R (List D)) : Prop := PA X es (tA X.K RX W f)
abbrev DAV (X : Cx) (es : List Expr) (f : Ev → Option (List D)) : Prop := PA X es (tAV X.K f)
abbrev DT (X : Cx) (RX : RXR) (W : WX) (e : Expr) (f : Ev → R Bool) : Prop := PT X e (tT X.K RX W f)
omit [TabC] in
theorem pe_imp {X : Cx} {e : Expr} {t t' : TE} (h : PE X e t) (w : ∀ σ H Q, t' σ H Q → t σ H Q) : PE X e t' := ⟨fun pins s σ H Q I q => h.run pins s σ H Q I (w _ _ _ q)⟩
omit [TabC] in
theorem pt_imp {X : Cx} {e : Expr} {t t' : TT} (h : PT X e t) (w : ∀ σ H Q, t' σ H Q → t σ H Q) : PT X e t' := ⟨fun pins s σ H Q I q => h.run pins s σ H Q I (w _ _ _ q)⟩
omit [TabC] in
theorem pw_imp {X : Cx} {e : Expr} {t t' : TT} (h : PW X e t) (w : ∀ σ H Q, t' σ H Q → t σ H Q) : PW X e t' := ⟨fun wh pins s σ H Q I q => h.run wh pins s σ H Q I (w _ _ _ q)⟩
omit [TabC] in
theorem pa_imp {X : Cx} {e : List Expr} {t t' : TA} (h : PA X e t) (w : ∀ σ H Q, t' σ H Q → t σ H Q) : PA X e t' := ⟨fun pos pins s σ H Q I q => h.run pos pins s σ H Q I (w _ _ _ q)⟩
omit [TabC] in
theorem ps_imp {X : Cx} {e : Stmt} {t t' : TS} (h : PS X e t) (w : ∀ D σ H, t' D σ H → t D σ H) : PS X e t' := ⟨fun pins s σ H D I q => h.run pins s σ H D I (w _ _ _ q)⟩
omit [TabC] in
theorem pss_imp {X : Cx} {e : List Stmt} {t t' : TS} (h : PSs X e t) (w : ∀ D σ H, t' D σ H → t D σ H) : PSs X e t' := ⟨fun pins s σ H D I q => h.run pins s σ H D I (w _ _ _ q)⟩
def R.bind {α β : Type} (x : R α) (f : α → Ev → R β) : R β := match x with
  | .ok a ρ => f a ρ
  | .exc x ρ => .exc x ρ
  | .stk => .stk
def R.of {α : Type} (x : Option α) (ρ : Ev) : R α := match x with
  | some a => .ok a ρ
  | none => .stk
def VOp1 (K : PySem.W.Frag) (r : V → Hp → VK → Prop) (g : D → Option D) : Prop := ∀ (P : AS) (H : Hp) (d : D) (v : V) (x : D) (Q : VK), (∀ b, P b → H b ≠ none) → Rl false K P H d v E_ → g d = some x →
  (∀ u P' H' F, New P H P' H' F → Rl true K P' H' x u F → Q u H') → r v H Q
def VOp2 (K : PySem.W.Frag) (r : R2) (g : D → D → Option D) : Prop := ∀ (P : AS) (H : Hp) (d e : D) (v w : V) (x : D) (Q : VK), (∀ b, P b → H b ≠ none) → Rl false K P H d v E_ → Rl false K P H e w E_ → g d e = some x →
  (∀ u P' H' F, New P H P' H' F → Rl true K P' H' x u F → Q u H') → r v w H Q
def VOpN (K : PySem.W.Frag) (r : List V → Hp → VK → Prop) (g : List D → Option D) : Prop := ∀ (P : AS) (H : Hp) (ds : List D) (vs : List V) (x : D) (Q : VK), (∀ b, P b → H b ≠ none) → Rls false K P H ds vs E_ → g ds = some x →
  (∀ u P' H' F, New P H P' H' F → Rl true K P' H' x u F → Q u H') → r vs H Q
def fOp1 (g : D → Option D) (f : Ev → R D) : Ev → R D := fun ρ => (f ρ).bind fun d ρ' => R.of (g d) ρ'
def fOp2 (g : D → D → Option D) (f h : Ev → R D) : Ev → R D := fun ρ => (f ρ).bind fun d ρ1 => (h ρ1).bind fun e ρ2 => R.of (g d e) ρ2
def fOp2V (g : D → D → Option D) (f : Ev → R D) (h : Ev → Option D) : Ev → R D := fun ρ => (f ρ).bind fun d ρ1 => R.of ((h ρ1).bind (g d)) ρ1
def fOpN (g : List D → Option D) (f : Ev → R (List D)) : Ev → R D := fun ρ => (f ρ).bind fun ds ρ' => R.of (g ds) ρ'
def vOp1 (g : D → Option D) (f : Ev → Option D) : Ev → Option D := fun ρ => (f ρ).bind g
def vOp2 (g : D → D → Option D) (f h : Ev → Option D) : Ev → Option D := fun ρ => (f ρ).bind fun d => (h ρ).bind (g d)
def vOpN (g : List D → Option D) (f : Ev → Option (List D)) : Ev → Option D := fun ρ => (f ρ).bind g
section
variable {K : PySem.W.Frag} {RX : RXR} {W : WX} {σ : L2.St} {H : Hp} {Q : VK}
theorem Tr.less' {P P1 : AS} {H H1 : Hp} {U0 U1 F : AS} (a : Tr P H U0 P1 H1 (fun b => U1 b ∨ F b)) : Tr P H U0 P1 H1 U1 := a.less fun _ q => .inl q
theorem e_opN {r : List V → Hp → VK → Prop} {g : List D → Option D} {f : Ev → R (List D)} (hv : VOpN K r g) (h : tE K RX W (fOpN g f) σ H Q) : tA K RX W f σ H (fun v H1 => r v H1 Q) := by
  obtain ⟨P, ρ, FE, S, h⟩ := h
  refine ⟨P, ρ, FE, S, ?_⟩
  unfold fOpN at h
  cases e : f ρ with
  | ok d ρ1 =>
    simp only [e, R.bind] at h
    intro v P1 H1 FE1 F1 S1 T1 t1
    cases e2 : g d with
    | none => simp only [e2, R.of] at h
    | some x =>
      simp only [e2, R.of] at h
      exact hv P1 H1 d v x Q S1.pin (rls_view T1.rl) e2 fun u P2 H2 F2 n r => h u P2 H2 FE1 F2 (n.stt S1) (n.tmp S1 r) (t1.less'.trans n.tr)
  | exc x ρ1 =>
    simp only [e, R.bind] at h
    exact h
  | stk =>
    simp only [e, R.bind] at h
theorem e_op2 {r : R2} {g : D → D → Option D} {f k : Ev → R D} (hv : VOp2 K r g) (h : tE K RX W (fOp2 g f k) σ H Q) : tE K RX W f σ H (fun v H1 => tE K RX W k σ H1 fun w H2 => r v w H2 Q) := by
  obtain ⟨P, ρ, FE, S, h⟩ := h
  refine ⟨P, ρ, FE, S, ?_⟩
  unfold fOp2 at h
  cases e : f ρ with
  | ok d ρ1 =>
    simp only [e, R.bind] at h
    intro v P1 H1 FE1 F1 S1 T1 t1
    refine ⟨P1, ρ1, FE1, S1, ?_⟩
    cases e1 : k ρ1 with
    | ok d' ρ2 =>
      simp only [e1] at h
      intro w P2 H2 FE2 F2 S2 T2 t2
      cases e2 : g d d' with
      | none => simp only [e2, R.of] at h
      | some x =>
        simp only [e2, R.of] at h
        have T1' := (T1.step S1 t2).1
        exact hv P2 H2 d d' v w x Q S2.pin (rl_view T1'.rl) (rl_view T2.rl) e2 fun u P3 H3 F3 n r => h u P3 H3 FE2 F3 (n.stt S2) (n.tmp S2 r) ((t1.less'.trans t2.less').trans n.tr)
    | exc x ρ2 =>
      simp only [e1] at h
      intro cls dx P2 H2 FE2 S2 t2
      exact h cls dx P2 H2 FE2 S2 (t1.less'.trans t2)
    | stk => simp only [e1] at h
  | exc x ρ1 =>
    simp only [e, R.bind] at h
    exact h
  | stk =>
    simp only [e, R.bind] at h
theorem e_op2V {r : R2} {g : D → D → Option D} {f : Ev → R D} {k : Ev → Option D} (hv : VOp2 K r g) (h : tE K RX W (fOp2V g f k) σ H Q) : tE K RX W f σ H (fun v H1 => tV K k σ H1 fun w H2 => r v w H2 Q) := by
  obtain ⟨P, ρ, FE, S, h⟩ := h
  refine ⟨P, ρ, FE, S, ?_⟩
  unfold fOp2V at h
  cases e : f ρ with
  | ok d ρ1 =>
    simp only [e, R.bind] at h
    intro v P1 H1 FE1 F1 S1 T1 t1
    refine ⟨P1, ρ1, FE1, S1, ?_⟩
    cases e1 : k ρ1 with
    | none => simp only [e1, Option.bind, R.of] at h
    | some d' =>
      simp only [e1, Option.bind] at h
      intro w P2 H2 n2 r2
      cases e2 : g d d' with
      | none => simp only [e2, R.of] at h
      | some x =>
        simp only [e2, R.of] at h
        have r1 : Rl false K P2 H2 d v E_ := rl_mono (rl_view T1.rl) n2.mono (fun b o e _ => n2.same b o e) (fun _ q => q)
        exact hv P2 H2 d d' v w x Q (n2.stt S1).pin r1 r2 e2 fun u P3 H3 F3 n r => h u P3 H3 FE1 F3 (n.stt (n2.stt S1)) (n.tmp (n2.stt S1) r) ((t1.less'.trans n2.tr.less').trans n.tr)
  | exc x ρ1 =>
    simp only [e, R.bind] at h
    exact h
  | stk =>
    simp only [e, R.bind] at h
theorem New.less_ {P P' : AS} {H H' : Hp} {F : AS} (n : New P H P' H' F) : New P H P' H' E_ := n.less fun _ q => q.elim
theorem New.trans_ {P P' P'' : AS} {H H' H'' : Hp} (n : New P H P' H' E_) (m : New P' H' P'' H'' E_) : New P H P'' H'' E_ := (n.trans m).less_
theorem v_op1 {r : V → Hp → VK → Prop} {g : D → Option D} {f : Ev → Option D} (hv : VOp1 K r g) (h : tV K (vOp1 g f) σ H Q) : tV K f σ H (fun v H1 => r v H1 Q) := by
  obtain ⟨P, ρ, FE, S, h⟩ := h
  refine ⟨P, ρ, FE, S, ?_⟩
  unfold vOp1 at h
  cases e : f ρ with
  | none => simp only [e, Option.bind] at h
  | some d =>
    simp only [e, Option.bind] at h
    intro v P1 H1 n1 r1
    cases e2 : g d with
    | none => simp only [e2] at h
    | some x =>
      simp only [e2] at h
      exact hv P1 H1 d v x Q (n1.stt S).pin r1 e2 fun u P2 H2 F2 n r => h u P2 H2 (n1.trans_ n.less_) (rl_view r)
theorem v_opN {r : List V → Hp → VK → Prop} {g : List D → Option D} {f : Ev → Option (List D)} (hv : VOpN K r g) (h : tV K (vOpN g f) σ H Q) : tAV K f σ H (fun v H1 => r v H1 Q) := by
  obtain ⟨P, ρ, FE, S, h⟩ := h
  refine ⟨P, ρ, FE, S, ?_⟩
  unfold vOpN at h
  cases e : f ρ with
  | none => simp only [e, Option.bind] at h
  | some d =>
    simp only [e, Option.bind] at h
    intro v P1 H1 n1 r1
    cases e2 : g d with
    | none => simp only [e2] at h
    | some x =>
      simp only [e2] at h
      exact hv P1 H1 d v x Q (n1.stt S).pin r1 e2 fun u P2 H2 F2 n r => h u P2 H2 (n1.trans_ n.less_) (rl_view r)
theorem v_op2 {r : R2} {g : D → D → Option D} {f k : Ev → Option D} (hv : VOp2 K r g) (h : tV K (vOp2 g f k) σ H Q) : tV K f σ H (fun v H1 => tV K k σ H1 fun w H2 => r v w H2 Q) := by
  obtain ⟨P, ρ, FE, S, h⟩ := h
  refine ⟨P, ρ, FE, S, ?_⟩
  unfold vOp2 at h
  cases e : f ρ with
  | none => simp only [e, Option.bind] at h
  | some d =>
    simp only [e, Option.bind] at h
    intro v P1 H1 n1 r1
    refine ⟨P1, ρ, FE, n1.stt S, ?_⟩
    cases e1 : k ρ with
    | none => simp only [e1] at h
    | some d' =>
      simp only [e1] at h
      intro w P2 H2 n2 r2
      cases e2 : g d d' with
      | none => simp only [e2] at h
      | some x =>
        simp only [e2] at h
        have r1' : Rl false K P2 H2 d v E_ := rl_mono r1 n2.mono (fun b o e _ => n2.same b o e) (fun _ q => q)
        exact hv P2 H2 d d' v w x Q (n2.stt (n1.stt S)).pin r1' r2 e2 fun u P3 H3 F3 n r => h u P3 H3 ((n1.trans_ n2).trans_ n.less_) (rl_view r)
end
def fVar (i : Nat) : Ev → R D := fun ρ => match ρ[i]? with
  | some (some d) => .ok (frz d) (ρ.set i (some (frz d)))
  | _ => .stk
def vVar (i : Nat) : Ev → Option D := fun ρ => match ρ[i]? with
  | some (some d) => some d
  | _ => none
/-- what is seen and is no one's own may be taken -/
def fI (f : Ev → Option D) : Ev → R D := fun ρ => match f ρ with
  | some d => if isImm d = true then .ok d ρ else .stk
  | none => .stk
def fNil : Ev → R (List D) := fun ρ => .ok [] ρ
def fCons (f : Ev → R D) (g : Ev → R (List D)) : Ev → R (List D) := fun ρ => (f ρ).bind fun d ρ1 => (g ρ1).bind fun ds ρ2 => .ok (d :: ds) ρ2
def vNil : Ev → Option (List D) := fun _ => some []
def vCons (f : Ev → Option D) (g : Ev → Option (List D)) : Ev → Option (List D) := fun ρ => (f ρ).bind fun d => (g ρ).bind fun ds => some (d :: ds)
section
variable {X : Cx} {RX : RXR} {W : WX}
theorem de_var {i : Nat} {x : Str} {pos : Pos} (h : PE X (.Name x pos) (tVar i)) : DE X RX W (.Name x pos) (fVar i) := by
  refine pe_imp h fun σ H Q q => ?_
  obtain ⟨P, ρ, FE, S, q⟩ := q
  unfold fVar at q
  cases e : ρ[i]? with
  | none => simp only [e] at q
  | some o =>
    cases o with
    | none => simp only [e] at q
    | some d =>
      simp only [e] at q
      obtain ⟨v, ev, r⟩ := S.rel i d e
      refine ⟨v, ev, ?_⟩
      have hF : ∀ b, FE i b → H b ≠ none := fun b z => (S.fin i b z).1
      refine q v (fun b => P b ∨ FE i b) H (fun j b => j ≠ i ∧ FE j b) E_ ⟨fun b z => z.elim (S.pin b) (hF b), fun j b z => ⟨(S.fin j b z.2).1, fun w => w.elim (S.fin j b z.2).2 fun w => z.1 (S.dj j i b z.2 w)⟩, fun j k b z w => S.dj j k b z.2 w.2, fun j d' e' => ?_, by simpa using S.len, S.tab.mono fun _ z => .inl z⟩
        ⟨rl_frz r (fun b z => .inl z) fun b z => .inr z, fun b z => z.elim⟩ ⟨fun b o z _ _ => z, fun b z => .inl z, fun b z => z.imp id fun w => .inl ⟨i, w⟩, fun b z => z.elim (fun ⟨j, w⟩ => .inl ⟨j, w.2⟩) False.elim, fun b z => z⟩
      by_cases hj : j = i
      · subst hj
        have hl : j < ρ.length := (List.getElem?_eq_some_iff.mp e).1
        rw [List.getElem?_set_self hl] at e'
        cases e'
        exact ⟨v, ev, rl_frz r (fun b z => .inl z) fun b z => .inr z⟩
      · rw [List.getElem?_set_ne (Ne.symm hj)] at e'
        obtain ⟨w, e1, r1⟩ := S.rel j d' e'
        exact ⟨w, e1, rl_mono r1 (fun b z => .inl z) (fun b o z _ _ => z) fun b z => ⟨hj, z⟩⟩
theorem dv_var {i : Nat} {x : Str} {pos : Pos} (h : PE X (.Name x pos) (tVar i)) : DV X (.Name x pos) (vVar i) := by
  refine pe_imp h fun σ H Q q => ?_
  obtain ⟨P, ρ, FE, S, q⟩ := q
  unfold vVar at q
  cases e : ρ[i]? with
  | none => simp only [e] at q
  | some o =>
    cases o with
    | none => simp only [e] at q
    | some d =>
      simp only [e] at q
      obtain ⟨v, ev, r⟩ := S.rel i d e
      exact ⟨v, ev, q v P H New.refl (rl_view r)⟩
theorem de_ofV {e : Expr} {f : Ev → Option D} (h : DV X e f) : DE X RX W e (fI f) := by
  refine pe_imp h fun σ H Q q => ?_
  obtain ⟨P, ρ, FE, S, q⟩ := q
  unfold fI at q
  refine ⟨P, ρ, FE, S, ?_⟩
  cases e : f ρ with
  | none => simp only [e] at q
  | some d =>
    simp only [e] at q
    intro v P' H' n r
    by_cases i : isImm d = true
    · simp only [if_pos i] at q
      exact q v P' H' FE E_ (n.stt S) ⟨rl_imm r i, fun b z => z.elim⟩ (n.tr)
    · simp only [if_neg i] at q
theorem de_con {e : Expr} {v : V} {d : D} (h : PE X e (tC v)) (r : ∀ P H, Rl true X.K P H d v E_) : DE X RX W e (fun ρ => .ok d ρ) := by
  refine pe_imp h fun σ H Q q => ?_
  obtain ⟨P, ρ, FE, S, q⟩ := q
  exact q v P H FE E_ S ⟨r P H, fun b z => z.elim⟩ (Tr.refl.less fun b z => z.elim id False.elim)
theorem dv_con {e : Expr} {v : V} {d : D} (h : PE X e (tC v)) (r : ∀ P H, Rl true X.K P H d v E_) : DV X e (fun _ => some d) := by
  refine pe_imp h fun σ H Q q => ?_
  obtain ⟨P, ρ, FE, S, q⟩ := q
  exact q v P H New.refl (rl_view (r P H))
theorem da_nil : DA X RX W [] fNil := by
  refine pa_imp pa_nil fun σ H Q q => ?_
  obtain ⟨P, ρ, FE, S, q⟩ := q
  exact q [] P H FE E_ S ⟨.nil, fun b z => z.elim⟩ (Tr.refl.less fun b z => z.elim id False.elim)
theorem dav_nil : DAV X [] vNil := by
  refine pa_imp pa_nil fun σ H Q q => ?_
  obtain ⟨P, ρ, FE, S, q⟩ := q
  exact q [] P H New.refl .nil
theorem da_cons {e : Expr} {es : List Expr} {f : Ev → R D} {g : Ev → R (List D)} (h : DE X RX W e f) (t : DA X RX W es g) (hs : starEach (e :: es) X.env = (false, eval e X.env) :: starEach es X.env := by rfl) : DA X RX W (e :: es) (fCons f g) := by
  refine pa_imp (pa_cons h t hs) fun σ H Q q => ?_
  obtain ⟨P, ρ, FE, S, q⟩ := q
  refine ⟨P, ρ, FE, S, ?_⟩
  unfold fCons at q
  cases e : f ρ with
  | ok d ρ1 =>
    simp only [e, R.bind] at q
    intro v P1 H1 FE1 F1 S1 T1 t1
    refine ⟨P1, ρ1, FE1, S1, ?_⟩
    cases e1 : g ρ1 with
    | ok ds ρ2 =>
      simp only [e1] at q
      intro vs P2 H2 FE2 F2 S2 T2 t2
      obtain ⟨T1', dj⟩ := T1.step S1 t2
      refine q (v :: vs) P2 H2 FE2 (fun b => F1 b ∨ F2 b) S2 ⟨.cons T1'.rl T2.rl (fun b z => .inl z) (fun b z => .inr z) (fun b z w => dj b z w), fun b z => z.elim (T1'.own b) (T2.own b)⟩ ((t1.seq t2).less fun b z => ?_)
      rcases z with z | z | z
      · exact .inl (.inl z)
      · exact .inr z
      · exact .inl (.inr z)
    | exc x ρ2 =>
      simp only [e1] at q
      intro cls dx P2 H2 FE2 S2 t2
      exact q cls dx P2 H2 FE2 S2 (t1.less'.trans t2)
    | stk => simp only [e1] at q
  | exc x ρ1 =>
    simp only [e, R.bind] at q
    exact q
  | stk => simp only [e, R.bind] at q
theorem dav_cons {e : Expr} {es : List Expr} {f : Ev → Option D} {g : Ev → Option (List D)} (h : DV X e f) (t : DAV X es g) (hs : starEach (e :: es) X.env = (false, eval e X.env) :: starEach es X.env := by rfl) : DAV X (e :: es) (vCons f g) := by
  refine pa_imp (pa_cons h t hs) fun σ H Q q => ?_
  obtain ⟨P, ρ, FE, S, q⟩ := q
  refine ⟨P, ρ, FE, S, ?_⟩
  unfold vCons at q
  cases e : f ρ with
  | none => simp only [e, Option.bind] at q
  | some d =>
    simp only [e, Option.bind] at q
    intro v P1 H1 n1 r1
    refine ⟨P1, ρ, FE, n1.stt S, ?_⟩
    cases e1 : g ρ with
    | none => simp only [e1] at q
    | some ds =>
      simp only [e1] at q
      intro vs P2 H2 n2 r2
      exact q (v :: vs) P2 H2 (n1.trans_ n2) (.cons (rl_mono r1 n2.mono (fun b o e _ => n2.same b o e) fun _ q => q) r2 (fun b z => z) (fun b z => z) fun b z => z.elim)
end
end Hap
namespace Hap
open PySem PySem.Spec PyProof.Rows L2
variable [TabC]
def Kp (kp : List Nat) (σ σ' : L2.St) : Prop := σ'.length = σ.length ∧ ∀ i, i ∈ kp → σ'[i]? = σ[i]?
omit [TabC] in
theorem Kp.refl {kp : List Nat} {σ : L2.St} : Kp kp σ σ := ⟨rfl, fun _ _ => rfl⟩
omit [TabC] in
theorem Kp.trans {kp : List Nat} {σ σ1 σ2 : L2.St} (a : Kp kp σ σ1) (b : Kp kp σ1 σ2) : Kp kp σ σ2 := ⟨b.1.trans a.1, fun i h => (b.2 i h).trans (a.2 i h)⟩
omit [TabC] in
theorem Kp.set {kp : List Nat} {σ : L2.St} {i : Nat} {o : Option V} (h : i ∉ kp) : Kp kp σ (σ.set i o) := ⟨List.length_set, fun j hj => by
  rw [List.getElem?_set_ne]
  intro e; subst e; exact h hj⟩
def PoS (K : PySem.W.Frag) (RX : RXR) (W : WX) (kp : List Nat) (D : Ends) (P : AS) (σ : L2.St) (H : Hp) (FE : FP) (r : RS) : Prop := match r with
  | .nx ρ' => ∀ σ' P' H' FE', Stt K P' H' ρ' σ' FE' → Tr P H (U FE) P' H' (U FE') → Kp kp σ σ' → D.nx σ' H'
  | .bk ρ' => ∀ σ' P' H' FE', Stt K P' H' ρ' σ' FE' → Tr P H (U FE) P' H' (U FE') → Kp kp σ σ' → D.bk σ' H'
  | .ct ρ' => ∀ σ' P' H' FE', Stt K P' H' ρ' σ' FE' → Tr P H (U FE) P' H' (U FE') → Kp kp σ σ' → D.ct σ' H'
  | .rt d ρ' => ∀ v σ' P' H' FE' F, Stt K P' H' ρ' σ' FE' → Tmp K P' H' FE' d v F → Tr P H (U FE) P' H' (fun b => U FE' b ∨ F b) → Kp kp σ σ' → D.rt v H'
  | .exc x ρ' => ∀ cls dx σ' P' H' FE', Stt K P' H' ρ' σ' FE' → Tr P H (U FE) P' H' (U FE') → Kp kp σ σ' → RX x P' H' cls dx → W cls dx σ' H'
  | .stk => False
def tS (K : PySem.W.Frag) (RX : RXR) (W : WX) (kp : List Nat) (g : Ev → RS) : TS := fun D σ H => ∃ P ρ FE, Stt K P H ρ σ FE ∧ PoS K RX W kp D P σ H FE (g ρ)
abbrev DS (X : Cx) (RX : RXR) (W : WX) (kp : List Nat) (s : Stmt) (g : Ev → RS) : Prop := PS X s (tS X.K RX W kp g)
abbrev DSs (X : Cx) (RX : RXR) (W : WX) (kp : List Nat) (s : List Stmt) (g : Ev → RS) : Prop := PSs X s (tS X.K RX W kp g)
def fNext : Ev → RS := .nx
def fSeq (g k : Ev → RS) : Ev → RS := fun ρ => match g ρ with
  | .nx ρ' => k ρ'
  | .rt d ρ' => .rt d ρ'
  | .bk ρ' => .bk ρ'
  | .ct ρ' => .ct ρ'
  | .exc x ρ' => .exc x ρ'
  | .stk => .stk
def RS.of {α : Type} (r : R α) (k : α → Ev → RS) : RS := match r with
  | .ok a ρ => k a ρ
  | .exc x ρ => .exc x ρ
  | .stk => .stk
def fRet (f : Ev → R D) : Ev → RS := fun ρ => RS.of (f ρ) .rt
def fDrop (f : Ev → R D) : Ev → RS := fun ρ => RS.of (f ρ) fun _ ρ' => .nx ρ'
def fIf (c : Ev → R Bool) (g k : Ev → RS) : Ev → RS := fun ρ => RS.of (c ρ) fun b ρ' => if b = true then g ρ' else k ρ'
/-- an assignment: the value, the target -/
def fAsg (f : Ev → R D) (t : D → Ev → Option Ev) : Ev → RS := fun ρ => RS.of (f ρ) fun d ρ' => match t d ρ' with
  | some ρ2 => .nx ρ2
  | none => .stk
section
variable {K : PySem.W.Frag} {RX : RXR} {W : WX} {kp : List Nat} {D : Ends} {P P1 : AS} {σ σ1 : L2.St} {H H1 : Hp} {FE FE1 : FP}
/-- from a later state -/
theorem PoS.later {r : RS} (h : PoS K RX W kp D P σ H FE r) (t : Tr P H (U FE) P1 H1 (U FE1)) (k : Kp kp σ σ1) : PoS K RX W kp D P1 σ1 H1 FE1 r := by
  cases r with
  | nx ρ => exact fun σ' P' H' FE' S u kk => h σ' P' H' FE' S (t.trans u) (k.trans kk)
  | bk ρ => exact fun σ' P' H' FE' S u kk => h σ' P' H' FE' S (t.trans u) (k.trans kk)
  | ct ρ => exact fun σ' P' H' FE' S u kk => h σ' P' H' FE' S (t.trans u) (k.trans kk)
  | rt d ρ => exact fun v σ' P' H' FE' F S T u kk => h v σ' P' H' FE' F S T (t.trans u) (k.trans kk)
  | exc x ρ => exact fun cls dx σ' P' H' FE' S u kk => h cls dx σ' P' H' FE' S (t.trans u) (k.trans kk)
  | stk => exact h
end
section
variable {X : Cx} {RX : RXR} {W : WX} {kp : List Nat}
theorem dss_nil : DSs X RX W kp [] fNext := pss_imp pss_nil fun D σ H ⟨P, ρ, FE, S, q⟩ => q σ P H FE S Tr.refl Kp.refl
theorem dss_cons {s : Stmt} {ss : List Stmt} {g k : Ev → RS} (h : DS X RX W kp s g) (t : DSs X RX W kp ss k) : DSs X RX W kp (s :: ss) (fSeq g k) := by
  refine pss_imp (pss_cons h t) fun D σ H q => ?_
  obtain ⟨P, ρ, FE, S, q⟩ := q
  refine ⟨P, ρ, FE, S, ?_⟩
  unfold fSeq at q
  cases e : g ρ with
  | nx ρ1 =>
    simp only [e] at q
    exact fun σ1 P1 H1 FE1 S1 t1 k1 => ⟨P1, ρ1, FE1, S1, q.later t1 k1⟩
  | rt d ρ1 => simp only [e] at q; exact q
  | bk ρ1 => simp only [e] at q; exact q
  | ct ρ1 => simp only [e] at q; exact q
  | exc x ρ1 => simp only [e] at q; exact q
  | stk => simp only [e] at q; exact q
theorem dss_one {s : Stmt} {g : Ev → RS} (h : DS X RX W kp s g) : DSs X RX W kp [s] g := pss_one h
theorem ds_ret {e : Expr} {f : Ev → R D} {pos : Pos} (h : DE X RX W e f) : DS X RX W kp (.Return (some e) pos) (fRet f) := by
  refine ps_imp (ps_ret h) fun D σ H q => ?_
  obtain ⟨P, ρ, FE, S, q⟩ := q
  refine ⟨P, ρ, FE, S, ?_⟩
  unfold fRet at q
  cases e : f ρ with
  | ok d ρ1 => simp only [e, RS.of] at q; exact fun v P' H' FE' F S' T t => q v σ P' H' FE' F S' T t Kp.refl
  | exc x ρ1 => simp only [e, RS.of] at q; exact fun cls dx P' H' FE' S' t r => q cls dx σ P' H' FE' S' t Kp.refl r
  | stk => simp only [e, RS.of] at q; exact q
theorem ds_drop {f : Ev → R D} {s : Stmt} (h : PS X s (tDrop (tE X.K RX W f))) : DS X RX W kp s (fDrop f) := by
  refine ps_imp h fun D σ H q => ?_
  obtain ⟨P, ρ, FE, S, q⟩ := q
  refine ⟨P, ρ, FE, S, ?_⟩
  unfold fDrop at q
  cases e : f ρ with
  | ok d ρ1 => simp only [e, RS.of] at q; exact fun v P' H' FE' F S' T t => q σ P' H' FE' S' t.less' Kp.refl
  | exc x ρ1 => simp only [e, RS.of] at q; exact fun cls dx P' H' FE' S' t r => q cls dx σ P' H' FE' S' t Kp.refl r
  | stk => simp only [e, RS.of] at q; exact q
theorem ds_if {c : Expr} {a b : List Stmt} {f : Ev → R Bool} {g k : Ev → RS} {pos : Pos} (hc : DT X RX W c f) (ha : DSs X RX W kp a g) (hb : DSs X RX W kp b k) : DS X RX W kp (.If c a b pos) (fIf f g k) := by
  refine ps_imp (ps_if hc ha hb) fun D σ H q => ?_
  obtain ⟨P, ρ, FE, S, q⟩ := q
  refine ⟨P, ρ, FE, S, ?_⟩
  unfold fIf at q
  cases e : f ρ with
  | ok d ρ1 =>
    simp only [e, RS.of] at q
    intro P1 H1 FE1 S1 t1
    cases d with
    | true => exact ⟨P1, ρ1, FE1, S1, PoS.later q t1 Kp.refl⟩
    | false => exact ⟨P1, ρ1, FE1, S1, PoS.later q t1 Kp.refl⟩
  | exc x ρ1 => simp only [e, RS.of] at q; exact fun cls dx P' H' FE' S' t r => q cls dx σ P' H' FE' S' t Kp.refl r
  | stk => simp only [e, RS.of] at q; exact q
def tG (K : PySem.W.Frag) (kp : List Nat) (t : D → Ev → Option Ev) : TG := fun v σ H Q => ∃ P ρ FE d F, Stt K P H ρ σ FE ∧ Tmp K P H FE d v F ∧ match t d ρ with
  | some ρ' => ∀ σ' P' H' FE', Stt K P' H' ρ' σ' FE' → Tr P H (fun b => U FE b ∨ F b) P' H' (U FE') → Kp kp σ σ' → Q σ' H'
  | none => False
def tGs (K : PySem.W.Frag) (kp : List Nat) (t : List D → Ev → Option Ev) : TGs := fun vs σ H Q => ∃ P ρ FE ds F, Stt K P H ρ σ FE ∧ Tmps K P H FE ds vs F ∧ match t ds ρ with
  | some ρ' => ∀ σ' P' H' FE', Stt K P' H' ρ' σ' FE' → Tr P H (fun b => U FE b ∨ F b) P' H' (U FE') → Kp kp σ σ' → Q σ' H'
  | none => False
abbrev DG (X : Cx) (kp : List Nat) (e : Expr) (t : D → Ev → Option Ev) : Prop := PG X e (tG X.K kp t)
abbrev DGs (X : Cx) (kp : List Nat) (es : List Expr) (t : List D → Ev → Option Ev) : Prop := PGs X es (tGs X.K kp t)
omit [TabC] in
theorem pg_imp {e : Expr} {t t' : TG} (h : PG X e t) (w : ∀ v σ H Q, t' v σ H Q → t v σ H Q) : PG X e t' := ⟨fun pins s σ H v u Q I r q => h.run pins s σ H v u Q I r (w _ _ _ _ q)⟩
omit [TabC] in
theorem pgs_imp {e : List Expr} {t t' : TGs} (h : PGs X e t) (w : ∀ v σ H Q, t' v σ H Q → t v σ H Q) : PGs X e t' := ⟨fun pins s σ H v u Q I r q => h.run pins s σ H v u Q I r (w _ _ _ _ q)⟩
def gN (i : Nat) : D → Ev → Option Ev := fun d ρ => some (ρ.set i (some d))
def gsN : List D → Ev → Option Ev := fun ds ρ => match ds with
  | [] => some ρ
  | _ :: _ => none
def gsC (t : D → Ev → Option Ev) (u : List D → Ev → Option Ev) : List D → Ev → Option Ev := fun ds ρ => match ds with
  | [] => none
  | d :: ds => match t d ρ with
    | some ρ' => u ds ρ'
    | none => none
def gT (n : Nat) (u : List D → Ev → Option Ev) : D → Ev → Option Ev := fun d ρ => match d with
  | .tup ds => if ds.length = n then u ds ρ else none
  | _ => none
theorem dg_name {i : Nat} {e : Expr} (h : PG X e (gName i)) (hk : i ∉ kp) : DG X kp e (gN i) := by
  refine pg_imp h fun v σ H Q q => ?_
  obtain ⟨P, ρ, FE, d, F, S, T, q⟩ := q
  exact q (σ.set i (some v)) P H _ (S.set T i) (Tr.refl.less fun b z => Stt.set_sub i b z) (Kp.set hk)
theorem dgs_nil : DGs X kp [] gsN := by
  refine pgs_imp pgs_nil fun vs σ H Q q => ?_
  obtain ⟨P, ρ, FE, ds, F, S, T, q⟩ := q
  cases ds with
  | nil =>
    cases T.rl
    exact ⟨rfl, q σ P H FE S (Tr.refl.less fun b z => .inl z) Kp.refl⟩
  | cons d ds => exact q.elim
theorem dgs_cons {e : Expr} {es : List Expr} {t : D → Ev → Option Ev} {u : List D → Ev → Option Ev} (h : DG X kp e t) (k : DGs X kp es u) (hs : (assignEach (e :: es) X.env).map (·.2) = assign e X.env :: (assignEach es X.env).map (·.2) := by rfl) : DGs X kp (e :: es) (gsC t u) := by
  refine pgs_imp (pgs_cons h k hs) fun vs σ H Q q => ?_
  obtain ⟨P, ρ, FE, ds, F, S, T, q⟩ := q
  cases ds with
  | nil => exact q.elim
  | cons d ds =>
    obtain ⟨rl, own⟩ := T
    cases rl with
    | @cons _ v _ vs _ F1 F2 r rs s1 s2 dj =>
      refine ⟨v, vs, rfl, ?_⟩
      have T1 : Tmp X.K P H FE d v F1 := ⟨r, fun b z => own b (s1 b z)⟩
      have T2 : Tmps X.K P H FE ds vs F2 := ⟨rs, fun b z => own b (s2 b z)⟩
      refine ⟨P, ρ, FE, d, F1, S, T1, ?_⟩
      simp only [gsC] at q
      cases e1 : t d ρ with
      | none => simp only [e1] at q
      | some ρ1 =>
        simp only [e1] at q
        intro σ1 P1 H1 FE1 S1 t1 k1
        have T2' : Tmps X.K P1 H1 FE1 ds vs F2 := by
          refine ⟨rls_mono rs t1.mono (fun b o e z => t1.frame b o e fun w => ?_) fun _ z => z, fun b z => ?_⟩
          · rcases z rfl with z | z
            · exact w.elim (fun ⟨i, w⟩ => (S.fin i b w).2 z) fun w => (T1.own b w).2.1 z
            · exact w.elim (T2.own b z).2.2 fun w => dj b w z
          · obtain ⟨h1, h2, h3⟩ := T2.own b z
            exact ⟨t1.alive b h1, fun w => (t1.back b w).elim h2 (fun w => w.elim (fun w => w.elim h3 fun w => dj b w z) h1), fun w => (t1.sub b w).elim (fun w => w.elim h3 fun w => dj b w z) h1⟩
        refine ⟨P1, ρ1, FE1, ds, F2, S1, T2', ?_⟩
        cases e2 : u ds ρ1 with
        | none => simp only [e2] at q
        | some ρ2 =>
          simp only [e2] at q
          intro σ2 P2 H2 FE2 S2 t2 k2
          refine q σ2 P2 H2 FE2 S2 ⟨fun b o e n nt => t2.frame b o (t1.frame b o e (fun w => n (w.imp id (s1 b))) nt) (fun w => ?_) nt, fun b z => t2.mono b (t1.mono b z), fun b z => ?_, fun b z => ?_, fun b z => t2.alive b (t1.alive b z)⟩ (k1.trans k2)
          · rcases w with w | w
            · rcases t1.sub b w with w | w
              · exact n (w.imp id (s1 b))
              · rw [e] at w; cases w
            · exact n (.inr (s2 b w))
          · rcases t2.back b z with z | z | z
            · exact (t1.back b z).imp id fun w => w.imp (fun w => w.imp id (s1 b)) id
            · rcases z with z | z
              · exact .inr ((t1.sub b z).imp (fun w => w.imp id (s1 b)) id)
              · exact .inr (.inl (.inr (s2 b z)))
            · refine .inr (.inr ?_)
              cases e : H b with
              | none => rfl
              | some o => exact absurd z (t1.alive b (by rw [e]; simp))
          · rcases t2.sub b z with z | z
            · rcases z with z | z
              · exact (t1.sub b z).imp (fun w => w.imp id (s1 b)) id
              · exact .inl (.inr (s2 b z))
            · refine .inr ?_
              cases e : H b with
              | none => rfl
              | some o => exact absurd z (t1.alive b (by rw [e]; simp))
theorem dg_tup {es : List Expr} {n k : Nat} {pos : Pos} {u : List D → Ev → Option Ev} (hc : X.calm = true) (h : DGs X kp es u) (hn : (assignEach es X.env).length = n := by rfl) (hst : (assignEach es X.env).findIdx? (·.1) = none := by rfl) :
    DG X kp (.Tuple es k pos) (gT n u) := by
  refine pg_imp (pg_tup hc h hn hst) fun v σ H Q q => ?_
  obtain ⟨P, ρ, FE, d, F, S, T, q⟩ := q
  cases d with
  | tup ds =>
    obtain ⟨rl, own⟩ := T
    cases rl with
    | tup e p rs =>
      simp only [gT] at q
      by_cases hl : ds.length = n
      · simp only [if_pos hl] at q
        exact ⟨_, _, rfl, .inl (.inl e), by rw [← rls_len rs]; exact hl, P, ρ, FE, ds, F, S, ⟨rs, own⟩, q⟩
      · simp only [if_neg hl] at q
  | _ => exact q.elim
/-- target = value -/
theorem ds_asg {s : Stmt} {f : Ev → R D} {t : D → Ev → Option Ev} (h : PS X s (tAsg (tE X.K RX W f) (tG X.K kp t))) : DS X RX W kp s (fAsg f t) := by
  refine ps_imp h fun D σ H q => ?_
  obtain ⟨P, ρ, FE, S, q⟩ := q
  refine ⟨P, ρ, FE, S, ?_⟩
  unfold fAsg at q
  cases e : f ρ with
  | ok d ρ1 =>
    simp only [e, RS.of] at q
    intro v P1 H1 FE1 F1 S1 T1 t1
    refine ⟨P1, ρ1, FE1, d, F1, S1, T1, ?_⟩
    cases e1 : t d ρ1 with
    | none => simp only [e1] at q; exact q
    | some ρ2 =>
      simp only [e1] at q
      exact fun σ2 P2 H2 FE2 S2 t2 k2 => q σ2 P2 H2 FE2 S2 (t1.trans t2) k2
  | exc x ρ1 => simp only [e, RS.of] at q; exact fun cls dx P' H' FE' S' t r => q cls dx σ P' H' FE' S' t Kp.refl r
  | stk => simp only [e, RS.of] at q; exact q
/-- name = value, from the layer's own rules (ps_set, ps_setLc) -/
theorem ds_set {s : Stmt} {i : Nat} {f : Ev → R D} (h : PS X s (tAsg (tE X.K RX W f) (gName i))) (hk : i ∉ kp) : DS X RX W kp s (fAsg f (gN i)) := by
  refine ps_imp h fun D σ H q => ?_
  obtain ⟨P, ρ, FE, S, q⟩ := q
  refine ⟨P, ρ, FE, S, ?_⟩
  unfold fAsg at q
  cases e : f ρ with
  | ok d ρ1 =>
    simp only [e, RS.of, gN] at q
    intro v P1 H1 FE1 F1 S1 T1 t1
    exact q (σ.set i (some v)) P1 H1 _ (S1.set T1 i) (t1.less fun b z => Stt.set_sub i b z) (Kp.set hk)
  | exc x ρ1 => simp only [e, RS.of] at q; exact fun cls dx P' H' FE' S' t r => q cls dx σ P' H' FE' S' t Kp.refl r
  | stk => simp only [e, RS.of] at q; exact q
end
end Hap
namespace Hap
open PySem PySem.Spec PyProof.Rows L2
variable [TabC]
/-- from any later state the walk J yields the data ds, one by one -/
structure Walks (K : PySem.W.Frag) (J : It) (P0 : AS) (H0 : Hp) (ds : List D) : Prop where
  go : ∀ (P : AS) (H : Hp) (i : Nat) (d : D), TAB P H → (∀ b, P0 b → P b) → (∀ b o, P0 b → H0 b = some o → NT o → H b = some o) → ds[i]? = some d →
    J.go i H ∧ ∀ x H3, J.yld i H x H3 → ∃ P3, New P H P3 H3 E_ ∧ Rl true K P3 H3 d x E_
  stop : ∀ (H : Hp), (∀ b o, P0 b → H0 b = some o → NT o → H b = some o) → J.stop ds.length H
def tI (K : PySem.W.Frag) (RX : RXR) (W : WX) (f : Ev → R (List D)) : TI := fun σ H Q => ∃ P ρ FE, Stt K P H ρ σ FE ∧ match f ρ with
  | .ok ds ρ' => ∀ J P' H' FE', Stt K P' H' ρ' σ FE' → Tr P H (U FE) P' H' (U FE') → Walks K J P' H' ds → Q J H'
  | .exc x ρ' => ∀ cls dx P' H' FE', Stt K P' H' ρ' σ FE' → Tr P H (U FE) P' H' (U FE') → RX x P' H' cls dx → W cls dx σ H'
  | .stk => False
abbrev DI (X : Cx) (RX : RXR) (W : WX) (tg e : Expr) (f : Ev → R (List D)) : Prop := PI X tg e (tI X.K RX W f)
omit [TabC] in
theorem pi_imp {X : Cx} {tg e : Expr} {t t' : TI} (h : PI X tg e t) (w : ∀ σ H Q, t' σ H Q → t σ H Q) : PI X tg e t' := ⟨fun pins s σ H Q I q => h.run pins s σ H Q I (w _ _ _ q)⟩
/-- the items of a list, a tuple -/
def itemsL (d : D) : Option (List D) := match d with
  | .lst _ ds => some (frzs ds)
  | .rol ds => some ds
  | _ => none
def itemsT (d : D) : Option (List D) := match d with
  | .tup ds => some (frzs ds)
  | _ => none
def strD (x : Str) : List D := x.cps.toList.map fun c => .str ⟨#[c]⟩
def itemsS (d : D) : Option (List D) := match d with
  | .str x => some (strD x)
  | _ => none
def enumD : Nat → List D → List D
  | _, [] => []
  | i, d :: ds => .tup [.int (i : Int), d] :: enumD (i + 1) ds
def rangeD (lo : Int) : Nat → List D
  | 0 => []
  | n + 1 => .int lo :: rangeD (lo + 1) n
def rangeDc (lo c : Int) : Nat → List D
  | 0 => []
  | n + 1 => .int lo :: rangeDc (lo + c) c n
def fIt (g : D → Option (List D)) (f : Ev → R D) : Ev → R (List D) := fun ρ => (f ρ).bind fun d ρ' => R.of (g d) ρ'
def fItN (g : List D → Option (List D)) (f : Ev → R (List D)) : Ev → R (List D) := fun ρ => (f ρ).bind fun d ρ' => R.of (g d) ρ'
omit [TabC] in
theorem enumD_get : ∀ {k i : Nat} {ds : List D} {d : D}, (enumD k ds)[i]? = some d → ∃ e, ds[i]? = some e ∧ d = .tup [.int ((k + i : Nat) : Int), e]
  | k, 0, e :: ds, d, h => by
    simp only [enumD, List.getElem?_cons_zero] at h
    cases h
    exact ⟨e, rfl, by simp⟩
  | k, i + 1, e :: ds, d, h => by
    simp only [enumD, List.getElem?_cons_succ] at h
    obtain ⟨e', h1, h2⟩ := enumD_get h
    refine ⟨e', by simpa using h1, ?_⟩
    rw [h2]
    congr 3
    omega
  | _, _, [], _, h => by simp [enumD] at h
omit [TabC] in
theorem enumD_len : ∀ (k : Nat) (ds : List D), (enumD k ds).length = ds.length
  | _, [] => rfl
  | k, _ :: ds => congrArg (· + 1) (enumD_len (k + 1) ds)
omit [TabC] in
theorem rangeD_get : ∀ {lo : Int} {n i : Nat} {d : D}, (rangeD lo n)[i]? = some d → i < n ∧ d = .int (lo + (i : Int))
  | lo, 0, i, d, h => by simp [rangeD] at h
  | lo, n + 1, 0, d, h => by
    simp only [rangeD, List.getElem?_cons_zero] at h
    cases h
    exact ⟨Nat.succ_pos _, by simp⟩
  | lo, n + 1, i + 1, d, h => by
    simp only [rangeD, List.getElem?_cons_succ] at h
    obtain ⟨h1, h2⟩ := rangeD_get h
    refine ⟨by omega, ?_⟩
    rw [h2]
    congr 1
    omega
omit [TabC] in
theorem rangeD_len : ∀ (lo : Int) (n : Nat), (rangeD lo n).length = n
  | _, 0 => rfl
  | lo, n + 1 => congrArg (· + 1) (rangeD_len (lo + 1) n)
omit [TabC] in
theorem rangeDc_get : ∀ {lo c : Int} {n i : Nat} {d : D}, (rangeDc lo c n)[i]? = some d → i < n ∧ d = .int (lo + (i : Int) * c)
  | lo, c, 0, i, d, h => by simp [rangeDc] at h
  | lo, c, n + 1, 0, d, h => by
    simp only [rangeDc, List.getElem?_cons_zero] at h
    cases h
    exact ⟨Nat.succ_pos _, by simp⟩
  | lo, c, n + 1, i + 1, d, h => by
    simp only [rangeDc, List.getElem?_cons_succ] at h
    obtain ⟨h1, h2⟩ := rangeDc_get h
    refine ⟨by omega, ?_⟩
    rw [h2]
    congr 1
    have : ((i + 1 : Nat) : Int) * c = (i : Int) * c + c := by
      rw [Int.natCast_add, Int.add_mul]; simp
    rw [this]; omega
omit [TabC] in
theorem rangeDc_len : ∀ (lo c : Int) (n : Nat), (rangeDc lo c n).length = n
  | _, _, 0 => rfl
  | lo, c, n + 1 => congrArg (· + 1) (rangeDc_len (lo + c) c n)
theorem New.pair {K : PySem.W.Frag} {P : AS} {H : Hp} {T : Addr} {x y : V} {d e : D} (hT : H T = none) (r1 : Rl true K P H d x E_) (r2 : Rl true K P H e y E_) :
    ∃ P3, New P H P3 (upd H T (.tup [x, y])) E_ ∧ Rl true K P3 (upd H T (.tup [x, y])) (.tup [d, e]) (.ref T) E_ := by
  refine ⟨fun b => P b ∨ b = T, New.tup hT, .tup upd_same (.inr rfl) ?_⟩
  have m : ∀ {d : D} {x : V}, Rl true K P H d x E_ → Rl true K (fun b => P b ∨ b = T) (upd H T (.tup [x, y])) d x E_ := fun r => rl_mono r (fun b z => .inl z) (fun b o e _ _ => by rw [upd_ne (ne_of_none e hT)]; exact e) fun _ z => z
  have m' : ∀ {d : D} {z : V}, Rl true K P H d z E_ → Rl true K (fun b => P b ∨ b = T) (upd H T (.tup [x, y])) d z E_ := fun r => rl_mono r (fun b z => .inl z) (fun b o e _ _ => by rw [upd_ne (ne_of_none e hT)]; exact e) fun _ z => z
  exact .cons (F1 := E_) (F2 := E_) (m' r1) (.cons (F1 := E_) (F2 := E_) (m' r2) .nil (fun _ z => z) (fun _ z => z) fun _ z => z.elim) (fun _ z => z) (fun _ z => z) fun _ z => z.elim
section
variable {K : PySem.W.Frag} {P0 : AS} {H0 : Hp} {ds : List D}
omit [TabC] in
theorem rol_sql {K : PySem.W.Frag} {P : AS} {H : Hp} {p : Addr} {vs : List V} (h : Rol K H P p vs) : SqL K H p vs := by
  rcases h with ⟨_, e | ⟨o, e⟩⟩ | h
  · exact .inl (.inl e)
  · exact .inl (.inr ⟨o, e⟩)
  · exact .inr h
/-- a list given up (or one that is only read) -/
def ImL (K : PySem.W.Frag) (P : AS) (H : Hp) (p : Addr) (ds : List D) : Prop := ∃ vs, ((H p = some (.lst vs) ∧ P p) ∨ Rol K H P p vs) ∧ Rls true K P H ds vs E_
theorem ImL.mono {P P' : AS} {H H' : Hp} {p : Addr} (h : ImL K P H p ds) (hP : ∀ b, P b → P' b) (hH : ∀ b o, P b → H b = some o → NT o → H' b = some o) : ∃ vs, (SqL K H' p vs) ∧ Rls true K P' H' ds vs E_ := by
  obtain ⟨vs, h, r⟩ := h
  refine ⟨vs, ?_, rls_mono r hP (fun b o e q => hH b o ((q rfl).elim id False.elim) e) fun _ z => z⟩
  rcases h with ⟨e, p⟩ | h
  · exact .inl (.inl (hH _ _ p e nt_lst))
  · exact rol_sql (Rol.mono (z := true) (F := E_) h hP fun b o e q => hH b o ((q rfl).elim id False.elim) e)
theorem walks_list {p : Addr} (h : ImL K P0 H0 p ds) : Walks K (Itl K p) P0 H0 ds where
  go := fun P H i d _ hP hH hd => by
    obtain ⟨vs, s, r⟩ := h.mono hP hH
    obtain ⟨v, e, r1⟩ := rls_get r hd
    exact ⟨⟨vs, v, s, e⟩, fun x H3 y => by
      obtain ⟨e1, y⟩ := y
      subst e1
      have := y vs s
      rw [e] at this; cases this
      exact ⟨P, New.refl, r1⟩⟩
  stop := fun H hH => by
    obtain ⟨vs, s, r⟩ := h.mono (P' := P0) (fun _ q => q) hH
    exact ⟨vs, s, Nat.le_of_eq (rls_len r).symm⟩
theorem walks_enum {p : Addr} (h : ImL K P0 H0 p ds) : Walks K (Ite K p) P0 H0 (enumD 0 ds) where
  go := fun P H i d _ hP hH hd => by
    obtain ⟨vs, s, r⟩ := h.mono hP hH
    obtain ⟨e, h1, h2⟩ := enumD_get hd
    obtain ⟨v, e1, r1⟩ := rls_get r h1
    refine ⟨⟨vs, v, s, e1⟩, fun x H3 y => ?_⟩
    obtain ⟨T, x1, rfl, hT, rfl, y⟩ := y
    have := y vs s
    rw [e1] at this; cases this
    rw [h2, Nat.zero_add]
    exact New.pair hT .int r1
  stop := fun H hH => by
    obtain ⟨vs, s, r⟩ := h.mono (P' := P0) (fun _ q => q) hH
    exact ⟨vs, s, by rw [enumD_len, rls_len r]; exact Nat.le_refl _⟩
theorem walks_range {lo : Int} {n : Nat} : Walks K (Itr lo n) P0 H0 (rangeD lo n) where
  go := fun P H i d _ hP hH hd => by
    obtain ⟨h1, h2⟩ := rangeD_get hd
    refine ⟨h1, fun x H3 y => ?_⟩
    obtain ⟨rfl, rfl⟩ := y
    exact ⟨P, New.refl, h2 ▸ .int⟩
  stop := fun H hH => by show n ≤ _; rw [rangeD_len]; exact Nat.le_refl _
theorem walks_rangeC {lo c : Int} {n : Nat} : Walks K (Itc lo c n) P0 H0 (rangeDc lo c n) where
  go := fun P H i d _ hP hH hd => by
    obtain ⟨h1, h2⟩ := rangeDc_get hd
    refine ⟨h1, fun x H3 y => ?_⟩
    obtain ⟨rfl, rfl⟩ := y
    exact ⟨P, New.refl, h2 ▸ .int⟩
  stop := fun H hH => by show n ≤ _; rw [rangeDc_len]; exact Nat.le_refl _
omit [TabC] in
theorem strD_get {x : Str} {i : Nat} {d : D} (h : (strD x)[i]? = some d) : ∃ c, x.cps[i]? = some c ∧ d = .str ⟨#[c]⟩ := by
  unfold strD at h
  rw [List.getElem?_map, Array.getElem?_toList] at h
  cases e : x.cps[i]? with
  | none => rw [e] at h; cases h
  | some c => rw [e] at h; cases h; exact ⟨c, rfl, rfl⟩
omit [TabC] in
theorem strD_len (x : Str) : (strD x).length = x.cps.size := by unfold strD; rw [List.length_map, Array.length_toList]
theorem walks_str {x : Str} : Walks K (Its x) P0 H0 (strD x) where
  go := fun P H i d _ hP hH hd => by
    obtain ⟨c, h1, h2⟩ := strD_get hd
    refine ⟨(Array.getElem?_eq_some_iff.mp h1).1, fun v H3 y => ?_⟩
    obtain ⟨rfl, c', e, rfl⟩ := y
    rw [h1] at e; cases e
    exact ⟨P, New.refl, h2 ▸ .str⟩
  stop := fun H hH => by show x.cps.size ≤ _; rw [strD_len]; exact Nat.le_refl _
end
section
variable {X : Cx} {RX : RXR} {W : WX} {tg e : Expr}
/-- a datum whose items are taken: all of it is given up -/
theorem itemsL_im {K : PySem.W.Frag} {P : AS} {H : Hp} {FE : FP} {d : D} {v : V} {F : AS} {ds : List D} (T : Tmp K P H FE d v F) (h : itemsL d = some ds) : ∃ p, v = .ref p ∧ (∃ vs, SqL K H p vs) ∧ ImL K (fun b => P b ∨ F b) H p ds := by
  obtain ⟨r, _⟩ := T
  cases r with
  | lstO e f s rs =>
    cases h
    exact ⟨_, rfl, ⟨_, .inl (.inl e)⟩, _, .inl ⟨e, .inr (f rfl)⟩, rls_frz rs (fun b z => .inl z) fun b z => .inr (s b z).1⟩
  | lstI e p i rs =>
    cases h
    exact ⟨_, rfl, ⟨_, .inl (.inl e)⟩, _, .inl ⟨e, .inl p⟩, rls_frz rs (fun b z => .inl z) fun b z => z.elim⟩
  | rol e i rs =>
    cases h
    exact ⟨_, rfl, ⟨_, rol_sql e⟩, _, .inr (Rol.mono (z := true) (F := E_) e (fun b z => .inl z) fun b o e _ _ => e), rls_mono rs (fun b z => .inl z) (fun b o e _ _ => e) fun _ z => z⟩
  | _ => cases h
theorem di_list {f : Ev → R D} (h : DE X RX W e f) : DI X RX W tg e (fIt itemsL f) := by
  refine pi_imp (pi_list h) fun σ H Q q => ?_
  obtain ⟨P, ρ, FE, S, q⟩ := q
  refine ⟨P, ρ, FE, S, ?_⟩
  unfold fIt at q
  cases e : f ρ with
  | ok d ρ1 =>
    simp only [e, R.bind] at q
    intro v P1 H1 FE1 F1 S1 T1 t1
    cases e2 : itemsL d with
    | none => simp only [e2, R.of] at q
    | some ds =>
      simp only [e2, R.of] at q
      obtain ⟨p, ev, hs, im⟩ := itemsL_im T1 e2
      exact ⟨p, ev, hs, q _ _ H1 FE1 (S1.give fun b z => ⟨(T1.own b z).1, (T1.own b z).2.2⟩) t1.give (walks_list im)⟩
  | exc x ρ1 => simp only [e, R.bind] at q; exact q
  | stk => simp only [e, R.bind] at q
theorem di_str {f : Ev → R D} (h : DE X RX W e f) : DI X RX W tg e (fIt itemsS f) := by
  refine pi_imp (pi_str h) fun σ H Q q => ?_
  obtain ⟨P, ρ, FE, S, q⟩ := q
  refine ⟨P, ρ, FE, S, ?_⟩
  unfold fIt at q
  cases e : f ρ with
  | ok d ρ1 =>
    simp only [e, R.bind] at q
    intro v P1 H1 FE1 F1 S1 T1 t1
    cases e2 : itemsS d with
    | none => simp only [e2, R.of] at q
    | some ds =>
      simp only [e2, R.of] at q
      obtain ⟨r, _⟩ := T1
      cases r with
      | str =>
        cases e2
        exact ⟨_, rfl, q _ _ H1 FE1 S1 t1.less' walks_str⟩
      | _ => cases e2
  | exc x ρ1 => simp only [e, R.bind] at q; exact q
  | stk => simp only [e, R.bind] at q
def rng1 (ds : List D) : Option (List D) := match ds with
  | [.int j] => if -(2 ^ 62) ≤ j ∧ j < 2 ^ 62 then some (rangeD 0 j.toNat) else none
  | _ => none
/-- range(i, j, -1) -/
def rngD (ds : List D) : Option (List D) := match ds with
  | [.int i, .int j, .int (-1)] => if -(2 ^ 61) ≤ i ∧ i < 2 ^ 61 ∧ -(2 ^ 61) ≤ j ∧ j < 2 ^ 61 then some (rangeDc i (-1) (i - j).toNat) else none
  | _ => none
/-- what an argument list's items give -/
theorem a_it {K : PySem.W.Frag} {f : Ev → R (List D)} {g : List D → Option (List D)} {σ : L2.St} {H : Hp} {Q : It → Hp → Prop} (q : tI K RX W (fItN g f) σ H Q) {C : List V → Hp → Prop}
    (w : ∀ (P : AS) (H1 : Hp) (ρ : Ev) (FE : FP) vs ds F ds', Stt K P H1 ρ σ FE → Tmps K P H1 FE ds vs F → g ds = some ds' → (∀ J, Walks K J (fun b => P b ∨ F b) H1 ds' → Q J H1) → C vs H1) : tA K RX W f σ H C := by
  obtain ⟨P, ρ, FE, S, q⟩ := q
  refine ⟨P, ρ, FE, S, ?_⟩
  unfold fItN at q
  cases e : f ρ with
  | ok d ρ1 =>
    simp only [e, R.bind] at q
    intro v P1 H1 FE1 F1 S1 T1 t1
    cases e2 : g d with
    | none => simp only [e2, R.of] at q
    | some ds =>
      simp only [e2, R.of] at q
      exact w P1 H1 ρ1 FE1 v d F1 ds S1 T1 e2 fun J k => q J _ H1 FE1 (S1.give fun b z => ⟨(T1.own b z).1, (T1.own b z).2.2⟩) t1.give k
  | exc x ρ1 => simp only [e, R.bind] at q; exact q
  | stk => simp only [e, R.bind] at q
omit [TabC] in
theorem rls1 {z : Bool} {K : PySem.W.Frag} {P : AS} {H : Hp} {d : D} {vs : List V} {F : AS} (h : Rls z K P H [d] vs F) : ∃ v, vs = [v] ∧ Rl z K P H d v F := by
  cases h with
  | cons r rs s1 s2 dj => cases rs; exact ⟨_, rfl, rl_mono r (fun _ q => q) (fun _ _ e _ _ => e) s1⟩
omit [TabC] in
theorem rls2 {z : Bool} {K : PySem.W.Frag} {P : AS} {H : Hp} {d e : D} {vs : List V} {F : AS} (h : Rls z K P H [d, e] vs F) : ∃ v w F1 F2, vs = [v, w] ∧ Rl z K P H d v F1 ∧ Rl z K P H e w F2 ∧ (∀ b, F1 b → F b) ∧ (∀ b, F2 b → F b) ∧ (∀ b, F1 b → F2 b → False) := by
  cases h with
  | cons r rs s1 s2 dj =>
    cases rs with
    | cons r' rs' s1' s2' dj' => cases rs'; exact ⟨_, _, _, _, rfl, r, r', s1, fun b z => s2 b (s1' b z), fun b z w => dj b z (s1' b w)⟩
omit [TabC] in
theorem rl_int {z : Bool} {K : PySem.W.Frag} {P : AS} {H : Hp} {i : Int} {v : V} {F : AS} (h : Rl z K P H (.int i) v F) : v = .int i := by cases h; rfl
omit [TabC] in
theorem rl_bl {z : Bool} {K : PySem.W.Frag} {P : AS} {H : Hp} {i : Bool} {v : V} {F : AS} (h : Rl z K P H (.bl i) v F) : v = .bl i := by cases h; rfl
omit [TabC] in
theorem rl_str {z : Bool} {K : PySem.W.Frag} {P : AS} {H : Hp} {i : Str} {v : V} {F : AS} (h : Rl z K P H (.str i) v F) : v = .str i := by cases h; rfl
omit [TabC] in
theorem rng1_ok {ds ds' : List D} (h : rng1 ds = some ds') : ∃ j, ds = [.int j] ∧ -(2 ^ 62) ≤ j ∧ j < 2 ^ 62 ∧ ds' = rangeD 0 j.toNat := by
  unfold rng1 at h
  split at h
  · rename_i j
    split at h
    · rename_i c
      cases h
      exact ⟨j, rfl, c.1, c.2, rfl⟩
    · cases h
  · cases h
omit [TabC] in
theorem rngD_ok {ds ds' : List D} (h : rngD ds = some ds') : ∃ i j, ds = [.int i, .int j, .int (-1)] ∧ (-(2 ^ 61) ≤ i ∧ i < 2 ^ 61 ∧ -(2 ^ 61) ≤ j ∧ j < 2 ^ 61) ∧ ds' = rangeDc i (-1) (i - j).toNat := by
  unfold rngD at h
  split at h
  · rename_i i j
    split at h
    · rename_i c
      cases h
      exact ⟨i, j, rfl, c, rfl⟩
    · cases h
  · cases h
theorem di_range1 {a : Expr} {f : Ev → R (List D)} {p pos : Pos} (hg : Gl X "range") (hm : X.mg "range" = none) (ha : DA X RX W [a] f) (hs : starEach [a] X.env = [(false, eval a X.env)] := by rfl) : DI X RX W tg (.Call (.Name "range" p) [a] [] pos) (fItN rng1 f) := by
  refine pi_imp (pi_range1 hg hm ha hs) fun σ H Q q => a_it q fun P H1 ρ FE vs ds F ds' S T g k => ?_
  obtain ⟨j, rfl, h1, h2, rfl⟩ := rng1_ok g
  obtain ⟨v, rfl, r⟩ := rls1 T.rl
  rw [rl_int r]
  exact ⟨j, rfl, h1, h2, k _ walks_range⟩
def enumL (ds : List D) : Option (List D) := match ds with
  | [d] => (itemsL d).map (enumD 0)
  | _ => none
theorem di_enum {a : Expr} {f : Ev → R (List D)} {p pos tpos : Pos} {elts : List Expr} {kk : Nat} (hg : Gl X "enumerate") (hm : X.mg "enumerate" = none) (ha : DA X RX W [a] f) (hs : starEach [a] X.env = [(false, eval a X.env)] := by rfl) :
    DI X RX W (.Tuple elts kk tpos) (.Call (.Name "enumerate" p) [a] [] pos) (fItN enumL f) := by
  refine pi_imp (pi_enum hg hm ha hs) fun σ H Q q => a_it q fun P H1 ρ FE vs ds F ds' S T g k => ?_
  unfold enumL at g
  split at g
  · rename_i d
    cases e : itemsL d with
    | none => rw [e] at g; cases g
    | some xs =>
      rw [e] at g; cases g
      obtain ⟨v, rfl, r⟩ := rls1 T.rl
      obtain ⟨p, rfl, ⟨vs, s⟩, im⟩ := itemsL_im (Tmp.mk r T.own) e
      exact ⟨p, vs, rfl, s, k _ (walks_enum im)⟩
  · cases g
def loopS (step : D → Ev → RS) : List D → Ev → RS
  | [], ρ => .nx ρ
  | d :: ds, ρ => match step d ρ with
    | .nx ρ' => loopS step ds ρ'
    | .ct ρ' => loopS step ds ρ'
    | .bk ρ' => .nx ρ'
    | .rt d ρ' => .rt d ρ'
    | .exc x ρ' => .exc x ρ'
    | .stk => .stk
def stepS (t : D → Ev → Option Ev) (g : Ev → RS) : D → Ev → RS := fun d ρ => match t d ρ with
  | some ρ' => g ρ'
  | none => .stk
def fFor (f : Ev → R (List D)) (t : D → Ev → Option Ev) (g : Ev → RS) : Ev → RS := fun ρ => RS.of (f ρ) (loopS (stepS t g))
theorem ds_for {kp : List Nat} {iter : Expr} {body : List Stmt} {f : Ev → R (List D)} {t : D → Ev → Option Ev} {g : Ev → RS} {pos : Pos} (hp : PassesOwn (model X.prog X.w) X.A X.env X.xe) (hc : X.calm = true)
    (hi : DI X RX W tg iter f) (hg : DG X kp tg t) (hb : DSs X RX W kp body g) (hs : ∀ x, foldedSetIterable iter X.env x = pure x := by intro _; rfl) : DS X RX W kp (.For tg iter body [] pos) (fFor f t g) := by
  refine ps_imp (ps_for hp hc hi hg hb hs) fun D σ H q => ?_
  obtain ⟨P, ρ, FE, S, q⟩ := q
  refine ⟨P, ρ, FE, S, ?_⟩
  unfold fFor at q
  cases e : f ρ with
  | exc x ρ1 => simp only [e, RS.of] at q; exact fun cls dx P' H' FE' S' t r => q cls dx σ P' H' FE' S' t Kp.refl r
  | stk => simp only [e, RS.of] at q; exact q
  | ok ds ρ1 =>
    simp only [e, RS.of] at q
    intro J P1 H1 FE1 S1 t1 wk
    have q1 := PoS.later q t1 Kp.refl
    refine ⟨fun i m σ2 H2 => m = ds.length - i ∧ i ≤ ds.length ∧ (∀ b o, P1 b → H1 b = some o → NT o → H2 b = some o) ∧ ∃ P2 ρ2 FE2, Stt X.K P2 H2 ρ2 σ2 FE2 ∧ (∀ b, P1 b → P2 b) ∧ PoS X.K RX W kp D P2 σ2 H2 FE2 (loopS (stepS t g) (ds.drop i) ρ2),
      ⟨ds.length, by simp, Nat.zero_le _, fun _ _ _ e _ => e, P1, ρ1, FE1, S1, fun _ z => z, by simpa using q1⟩, ?_⟩
    rintro i m σ2 H2 ⟨rfl, hi, kH, P2, ρ2, FE2, S2, kP, q2⟩
    by_cases hlt : i < ds.length
    · have hd : ds[i]? = some ds[i] := List.getElem?_eq_getElem hlt
      obtain ⟨go, yl⟩ := wk.go P2 H2 i ds[i] S2.tab kP kH hd
      have hdr : ds.drop i = ds[i] :: ds.drop (i + 1) := List.drop_eq_getElem_cons hlt
      rw [hdr] at q2
      refine .inr ⟨go, fun σ' H' => (∀ b o, P1 b → H1 b = some o → NT o → H' b = some o) ∧ ∃ P3 ρ3 FE3, Stt X.K P3 H' ρ3 σ' FE3 ∧ (∀ b, P1 b → P3 b) ∧ PoS X.K RX W kp D P3 σ' H' FE3 (loopS (stepS t g) (ds.drop (i + 1)) ρ3),
        fun σ' H' ⟨k1, z⟩ => ⟨ds.length - (i + 1), by omega, rfl, hlt, k1, z⟩, fun x H3 y => ?_⟩
      obtain ⟨P3, n3, r3⟩ := yl x H3 y
      have S3 := n3.stt S2
      have t3 : Tr P2 H2 (U FE2) P3 H3 (U FE2) := n3.tr.less'
      refine ⟨P3, ρ2, FE2, ds[i], E_, S3, ⟨r3, fun b z => z.elim⟩, ?_⟩
      simp only [loopS, stepS] at q2
      cases e1 : t ds[i] ρ2 with
      | none => simp only [e1] at q2; exact q2
      | some ρ3 =>
        simp only [e1] at q2
        intro σ4 P4 H4 FE4 S4 t4 k4
        have t4' : Tr P3 H3 (U FE2) P4 H4 (U FE4) := ⟨fun b o e n => t4.frame b o e fun z => z.elim n False.elim, t4.mono, fun b z => (t4.back b z).imp id fun z => z.imp (fun z => z.elim id False.elim) id, fun b z => (t4.sub b z).imp (fun z => z.elim id False.elim) id, t4.alive⟩
        have t24 := t3.trans t4'
        have kH4 : ∀ b o, P1 b → H1 b = some o → NT o → H4 b = some o := fun b o p e nt => t24.frame b o (kH b o p e nt) (fun ⟨j, z⟩ => (S2.fin j b z).2 (kP b p)) nt
        have kP4 : ∀ b, P1 b → P4 b := fun b z => t24.mono b (kP b z)
        refine ⟨P4, ρ3, FE4, S4, ?_⟩
        have nxt : ∀ {ρ5 : Ev} {σ5 : L2.St} {P5 : AS} {H5 : Hp} {FE5 : FP}, Stt X.K P5 H5 ρ5 σ5 FE5 → Tr P4 H4 (U FE4) P5 H5 (U FE5) → Kp kp σ4 σ5 → PoS X.K RX W kp D P2 σ2 H2 FE2 (loopS (stepS t g) (ds.drop (i + 1)) ρ5) →
            (∀ b o, P1 b → H1 b = some o → NT o → H5 b = some o) ∧ ∃ P3 ρ3 FE3, Stt X.K P3 H5 ρ3 σ5 FE3 ∧ (∀ b, P1 b → P3 b) ∧ PoS X.K RX W kp D P3 σ5 H5 FE3 (loopS (stepS t g) (ds.drop (i + 1)) ρ3) :=
          fun {ρ5 σ5 P5 H5 FE5} S5 t5 k5 q5 => ⟨fun b o p e nt => t5.frame b o (kH4 b o p e nt) (fun ⟨j, z⟩ => (S4.fin j b z).2 (kP4 b p)) nt, P5, ρ5, FE5, S5, fun b z => t5.mono b (kP4 b z), q5.later (t24.trans t5) (k4.trans k5)⟩
        cases e2 : g ρ3 with
        | nx ρ5 => simp only [e2] at q2; exact fun σ5 P5 H5 FE5 S5 t5 k5 => nxt S5 t5 k5 q2
        | ct ρ5 => simp only [e2] at q2; exact fun σ5 P5 H5 FE5 S5 t5 k5 => nxt S5 t5 k5 q2
        | bk ρ5 => simp only [e2] at q2; exact fun σ5 P5 H5 FE5 S5 t5 k5 => q2 σ5 P5 H5 FE5 S5 (t24.trans t5) (k4.trans k5)
        | rt d ρ5 => simp only [e2] at q2; exact fun v σ5 P5 H5 FE5 F5 S5 T5 t5 k5 => q2 v σ5 P5 H5 FE5 F5 S5 T5 (t24.trans t5) (k4.trans k5)
        | exc x ρ5 => simp only [e2] at q2; exact fun cls dx σ5 P5 H5 FE5 S5 t5 k5 r => q2 cls dx σ5 P5 H5 FE5 S5 (t24.trans t5) (k4.trans k5) r
        | stk => simp only [e2] at q2; exact q2
    · have e : i = ds.length := by omega
      subst e
      rw [List.drop_length] at q2
      exact .inl ⟨wk.stop H2 kH, q2 σ2 P2 H2 FE2 S2 Tr.refl Kp.refl⟩
end
end Hap
namespace Hap
open PySem PySem.Spec PyProof.Rows L2
variable [TabC]
def whileS (c : Ev → R Bool) (g : Ev → RS) : Nat → Ev → RS
  | 0, _ => .stk
  | n + 1, ρ => match c ρ with
    | .ok true ρ1 => (match g ρ1 with
      | .nx ρ2 => whileS c g n ρ2
      | .ct ρ2 => whileS c g n ρ2
      | .bk ρ2 => .nx ρ2
      | .rt d ρ2 => .rt d ρ2
      | .exc x ρ2 => .exc x ρ2
      | .stk => .stk)
    | .ok false ρ1 => .nx ρ1
    | .exc x ρ1 => .exc x ρ1
    | .stk => .stk
def fWhile (n : Nat) (c : Ev → R Bool) (g : Ev → RS) : Ev → RS := whileS c g n
section
variable {X : Cx} {RX : RXR} {W : WX} {kp : List Nat}
theorem ds_while {n : Nat} {c : Expr} {body : List Stmt} {f : Ev → R Bool} {g : Ev → RS} {pos : Pos} (hp : PassesOwn (model X.prog X.w) X.A X.env X.xe) (hc : DT X RX W c f) (hb : DSs X RX W kp body g) : DS X RX W kp (.While c body [] pos) (fWhile n f g) := by
  refine ps_imp (ps_while hp hc hb) fun D σ H q => ?_
  obtain ⟨P, ρ, FE, S, q⟩ := q
  refine ⟨fun m σ2 H2 => ∃ P2 ρ2 FE2, Stt X.K P2 H2 ρ2 σ2 FE2 ∧ PoS X.K RX W kp D P2 σ2 H2 FE2 (whileS f g m ρ2), ⟨n, P, ρ, FE, S, q⟩, ?_⟩
  rintro m σ2 H2 ⟨P2, ρ2, FE2, S2, q2⟩
  refine ⟨P2, ρ2, FE2, S2, ?_⟩
  cases m with
  | zero => exact q2.elim
  | succ m =>
    simp only [whileS] at q2
    cases e : f ρ2 with
    | exc x ρ3 => simp only [e] at q2; exact fun cls dx P' H' FE' S' t r => q2 cls dx σ2 P' H' FE' S' t Kp.refl r
    | stk => simp only [e] at q2; exact q2
    | ok b ρ3 =>
      intro P3 H3 FE3 S3 t3
      cases b with
      | false =>
        simp only [e] at q2
        exact q2 σ2 P3 H3 FE3 S3 t3 Kp.refl
      | true =>
        simp only [e] at q2
        refine ⟨fun σ4 H4 => ∃ P4 ρ4 FE4, Stt X.K P4 H4 ρ4 σ4 FE4 ∧ PoS X.K RX W kp D P4 σ4 H4 FE4 (whileS f g m ρ4), fun σ4 H4 z => ⟨m, Nat.lt_succ_self m, z⟩, P3, ρ3, FE3, S3, ?_⟩
        cases e2 : g ρ3 with
        | nx ρ4 => simp only [e2] at q2; exact fun σ4 P4 H4 FE4 S4 t4 k4 => ⟨P4, ρ4, FE4, S4, q2.later (t3.trans t4) k4⟩
        | ct ρ4 => simp only [e2] at q2; exact fun σ4 P4 H4 FE4 S4 t4 k4 => ⟨P4, ρ4, FE4, S4, q2.later (t3.trans t4) k4⟩
        | bk ρ4 => simp only [e2] at q2; exact fun σ4 P4 H4 FE4 S4 t4 k4 => q2 σ4 P4 H4 FE4 S4 (t3.trans t4) k4
        | rt d ρ4 => simp only [e2] at q2; exact fun v σ4 P4 H4 FE4 F4 S4 T4 t4 k4 => q2 v σ4 P4 H4 FE4 F4 S4 T4 (t3.trans t4) k4
        | exc x ρ4 => simp only [e2] at q2; exact fun cls dx σ4 P4 H4 FE4 S4 t4 k4 r => q2 cls dx σ4 P4 H4 FE4 S4 (t3.trans t4) k4 r
        | stk => simp only [e2] at q2; exact q2
end
def wipeE (ρ : Ev) : List Nat → Ev
  | [] => ρ
  | v :: vs => (wipeE ρ vs).set v none
/-- the slots of the block's own names as they were (nothing of one's own may stand there) -/
def backE (ρ0 ρ : Ev) : List Nat → Ev
  | [] => ρ
  | v :: vs => (backE ρ0 ρ vs).set v (match ρ0[v]? with | some o => o | none => none)
def immAt (ρ : Ev) (vs : List Nat) : Bool := vs.all fun v => match ρ[v]? with
  | some (some d) => isImm d
  | _ => true
/-- items one by one: the target, the tests, the element -/
def loopC (t : D → Ev → Option Ev) (c : Ev → R Bool) (f : Ev → R D) (vs : List Nat) : List D → List D → Ev → R (List D)
  | [], acc, ρ => .ok acc ρ
  | d :: ds, acc, ρ => match t d ρ with
    | none => .stk
    | some ρ1 => match c ρ1 with
      | .ok true ρ2 => (match f ρ2 with
        | .ok e ρ3 => loopC t c f vs ds (acc ++ [e]) (wipeE ρ3 vs)
        | _ => .stk)
      | .ok false ρ2 => loopC t c f vs ds acc (wipeE ρ2 vs)
      | _ => .stk
def fLc (i : Ev → R (List D)) (t : D → Ev → Option Ev) (c : Ev → R Bool) (f : Ev → R D) (vs : List Nat) : Ev → R D := fun ρ => (i ρ).bind fun ds ρ1 =>
  if immAt ρ1 vs = true ∧ ds.length ≤ sizeLine then
    match loopC t c f vs ds [] (wipeE ρ1 vs) with
    | .ok acc ρ2 => .ok (.lst true acc) (backE ρ1 ρ2 vs)
    | _ => .stk
  else .stk
section
variable {K : PySem.W.Frag} {P P' : AS} {H : Hp} {FE : FP} {ρ ρ1 : Ev} {σ : L2.St}
omit [TabC] in
theorem rls_snoc {z : Bool} {d : D} {v : V} : ∀ {ds : List D} {vs : List V} {F1 F2 F : AS}, Rls z K P H ds vs F1 → Rl z K P H d v F2 → (∀ b, F1 b → F b) → (∀ b, F2 b → F b) → (∀ b, F1 b → F2 b → False) → Rls z K P H (ds ++ [d]) (vs ++ [v]) F
  | _, _, F1, F2, F, .nil, r, _, s2, _ => .cons (F1 := F2) (F2 := E_) r .nil s2 (fun _ q => q.elim) fun _ _ q => q
  | _, _, F1, F2, F, .cons (F1 := G1) (F2 := G2) r' rs t1 t2 dj', r, s1, s2, dj =>
    .cons (F1 := G1) (F2 := fun b => G2 b ∨ F2 b) r' (rls_snoc rs r (fun _ q => .inl q) (fun _ q => .inr q) fun b q w => dj b (t2 b q) w) (fun b q => s1 b (t1 b q)) (fun b q => q.elim (fun q => s1 b (t2 b q)) (s2 b)) fun b q w => w.elim (dj' b q) (dj b (t1 b q))
omit [TabC] in
theorem wipeE_in {v : Nat} {d : D} : ∀ {vs : List Nat} {ρ : Ev}, (wipeE ρ vs)[v]? = some (some d) → v ∉ vs ∧ ρ[v]? = some (some d)
  | [], _, h => ⟨by simp, h⟩
  | u :: vs, ρ, h => by
    unfold wipeE at h
    by_cases e : u = v
    · subst e
      by_cases hl : u < (wipeE ρ vs).length
      · rw [List.getElem?_set_self hl] at h; cases h
      · rw [List.getElem?_eq_none (by simpa using hl)] at h; cases h
    · rw [List.getElem?_set_ne e] at h
      obtain ⟨h1, h2⟩ := wipeE_in h
      exact ⟨by simp only [List.mem_cons, not_or]; exact ⟨Ne.symm e, h1⟩, h2⟩
omit [TabC] in
theorem wipeE_len : ∀ (vs : List Nat) (ρ : Ev), (wipeE ρ vs).length = ρ.length
  | [], _ => rfl
  | u :: vs, ρ => by unfold wipeE; rw [List.length_set, wipeE_len vs ρ]
omit [TabC] in
theorem wipe_get {v : Nat} : ∀ {vs : List Nat} {σ : L2.St}, v ∉ vs → (wipe σ vs)[v]? = σ[v]?
  | [], _, _ => rfl
  | u :: vs, σ, h => by
    simp only [List.mem_cons, not_or] at h
    unfold wipe
    rw [List.getElem?_set_ne (Ne.symm h.1)]
    exact wipe_get h.2
omit [TabC] in
theorem wipe_in {v : Nat} : ∀ {vs : List Nat} {σ : L2.St}, v ∈ vs → v < σ.length → (wipe σ vs)[v]? = some none
  | [], _, h, _ => by simp at h
  | u :: vs, σ, h, hl => by
    unfold wipe
    by_cases e : u = v
    · subst e
      rw [List.getElem?_set_self (by rw [wipe_length]; exact hl)]
    · rw [List.getElem?_set_ne e]
      exact wipe_in (by simpa [Ne.symm e] using h) hl
theorem wipe_eq {vs : List Nat} {σ σ' : L2.St} (hl : σ'.length = σ.length) (h : ∀ i, i ∉ vs → σ'[i]? = σ[i]?) : wipe σ' vs = wipe σ vs := by
  apply List.ext_getElem?
  intro i
  by_cases hi : i ∈ vs
  · by_cases hlt : i < σ.length
    · rw [wipe_in hi hlt, wipe_in hi (by omega)]
    · rw [List.getElem?_eq_none (by rw [wipe_length]; omega), List.getElem?_eq_none (by rw [wipe_length]; omega)]
  · rw [wipe_get hi, wipe_get hi, h i hi]
omit [TabC] in
theorem backE_len : ∀ (vs : List Nat) (ρ0 ρ : Ev), (backE ρ0 ρ vs).length = ρ.length
  | [], _, _ => rfl
  | u :: vs, ρ0, ρ => by unfold backE; rw [List.length_set, backE_len vs ρ0 ρ]
omit [TabC] in
theorem backE_get {v : Nat} : ∀ {vs : List Nat} {ρ0 ρ : Ev}, v ∉ vs → (backE ρ0 ρ vs)[v]? = ρ[v]?
  | [], _, _, _ => rfl
  | u :: vs, ρ0, ρ, h => by
    simp only [List.mem_cons, not_or] at h
    unfold backE
    rw [List.getElem?_set_ne (Ne.symm h.1)]
    exact backE_get h.2
omit [TabC] in
theorem backE_in {v : Nat} {d : D} : ∀ {vs : List Nat} {ρ0 ρ : Ev}, v ∈ vs → (backE ρ0 ρ vs)[v]? = some (some d) → ρ0[v]? = some (some d)
  | [], _, _, h, _ => by simp at h
  | u :: vs, ρ0, ρ, h, e => by
    unfold backE at e
    by_cases hu : u = v
    · subst hu
      by_cases hl : u < (backE ρ0 ρ vs).length
      · rw [List.getElem?_set_self hl] at e
        split at e
        · rename_i o eo
          cases e
          exact eo
        · cases e
      · rw [List.getElem?_eq_none (by simpa using hl)] at e; cases e
    · rw [List.getElem?_set_ne hu] at e
      exact backE_in (by simpa [Ne.symm hu] using h) e
theorem Stt.wipe (S : Stt K P H ρ σ FE) (vs : List Nat) : Stt K P H (wipeE ρ vs) (L2.wipe σ vs) FE where
  pin := S.pin
  fin := S.fin
  dj := S.dj
  rel := fun i d e => by
    obtain ⟨h1, h2⟩ := wipeE_in e
    obtain ⟨v, e1, r⟩ := S.rel i d h2
    exact ⟨v, by rw [wipe_get h1]; exact e1, r⟩
  len := by rw [wipeE_len, wipe_length, S.len]
  tab := S.tab
/-- behind a block's turn: forget the block's names -/
theorem Stt.wipe2 {σ0 : L2.St} (S : Stt K P H ρ σ FE) {vs : List Nat} (h : L2.wipe σ vs = L2.wipe σ0 vs) : Stt K P H (wipeE ρ vs) (L2.wipe σ0 vs) FE := h ▸ S.wipe vs
/-- an object of a thing at hand is written -/
theorem Stt.write {a : Addr} {o u : HO} (S : Stt K P H ρ σ FE) (e : H a = some u) (n : Nd u) (h1 : ¬ P a) (h2 : ¬ U FE a) (no : Nd o := by constructor) : Stt K P (upd H a o) ρ σ FE where
  tab := tabs_write S.tab e n no
  pin := fun b q => by rw [upd_ne (fun e => h1 (by rw [← e]; exact q))]; exact S.pin b q
  fin := fun i b q => ⟨by rw [upd_ne (fun e => h2 ⟨i, by rw [← e]; exact q⟩)]; exact (S.fin i b q).1, (S.fin i b q).2⟩
  dj := S.dj
  rel := fun i d e => by
    obtain ⟨v, e1, r⟩ := S.rel i d e
    exact ⟨v, e1, rl_mono r (fun _ q => q) (fun b o e q _ => by rw [upd_ne]; exact e; intro z; subst z; exact (q rfl).elim h1 fun w => h2 ⟨i, w⟩) fun _ q => q⟩
  len := S.len
omit [TabC] in
theorem Tr.write {U0 U1 : AS} {P0 : AS} {H0 : Hp} {a : Addr} {o : HO} (t : Tr P0 H0 U0 P H U1) (h : U1 a) : Tr P0 H0 U0 P (upd H a o) U1 where
  frame := fun b u e n nt => by
    rw [upd_ne]
    · exact t.frame b u e n nt
    · intro z; subst z
      exact (t.sub _ h).elim n fun w => by rw [e] at w; cases w
  mono := t.mono
  back := t.back
  sub := t.sub
  alive := fun b q => by
    by_cases z : b = a
    · subst z; rw [upd_same]; simp
    · rw [upd_ne z]; exact t.alive b q
end
section
variable {X : Cx} {RX : RXR} {W : WX}
def tLcD (K : PySem.W.Frag) (RX : RXR) (W : WX) (i : Ev → R (List D)) (t : D → Ev → Option Ev) (c : Ev → R Bool) (f : Ev → R D) (kp vs : List Nat) : TE :=
  tLc (tI K RX W i) (tG K kp t) (tT K RX (fun _ _ _ _ => False) c) (tE K RX (fun _ _ _ _ => False) f) vs
/-- the reading of a comprehension -/
theorem lc_ok {K : PySem.W.Frag} {i : Ev → R (List D)} {t : D → Ev → Option Ev} {c : Ev → R Bool} {f : Ev → R D} {kp vs : List Nat} {n : Nat} (hkp : kp = (List.range n).filter fun j => decide (j ∉ vs)) {σ : L2.St} {H : Hp} {Q : VK} (hn : σ.length = n)
    (q : tE K RX W (fLc i t c f vs) σ H Q) : tLcD K RX W i t c f kp vs σ H Q := by
  obtain ⟨P, ρ, FE, S, q⟩ := q
  refine ⟨P, ρ, FE, S, ?_⟩
  unfold fLc at q
  cases e : i ρ with
  | exc x ρ1 => simp only [e, R.bind] at q; exact q
  | stk => simp only [e, R.bind] at q
  | ok ds ρ1 =>
    simp only [e, R.bind] at q
    intro J P1 H1 FE1 S1 t1 wk A hA
    by_cases hc : immAt ρ1 vs = true ∧ ds.length ≤ sizeLine
    · simp only [if_pos hc] at q
      cases hl : loopC t c f vs ds [] (wipeE ρ1 vs) with
      | exc x ρ2 => simp only [hl] at q
      | stk => simp only [hl] at q
      | ok accF ρF =>
        simp only [hl] at q
        have nP1 : ¬ P1 A := fun z => S1.pin A z hA
        have nU1 : ¬ U FE1 A := fun ⟨j, z⟩ => (S1.fin j A z).1 hA
        have n0 : New P1 H1 P1 (upd H1 A (.lst [])) (fun b => b = A) := New.lst hA S1.pin
        have T0 : Tmp K P1 (upd H1 A (.lst [])) FE1 (.lst true []) (.ref A) (fun b => b = A) := n0.tmp S1 (.lstO (F' := E_) upd_same (fun _ => rfl) (fun b z => z.elim) .nil)
        refine ⟨fun k m H2 => m = ds.length - k ∧ k ≤ ds.length ∧ (∀ b o, P1 b → H1 b = some o → NT o → H2 b = some o) ∧ ∃ P2 ρ2 FE2 acc F2, Stt K P2 H2 ρ2 (wipe σ vs) FE2 ∧ Tmp K P2 H2 FE2 (.lst true acc) (.ref A) F2 ∧ Tr P1 H1 (U FE1) P2 H2 (fun b => U FE2 b ∨ F2 b) ∧
            acc.length ≤ k ∧ loopC t c f vs (ds.drop k) acc ρ2 = .ok accF ρF,
          ⟨ds.length, by simp, Nat.zero_le _, fun b o _ z => n0.same b o z, P1, wipeE ρ1 vs, FE1, [], fun b => b = A, (n0.stt S1).wipe vs, T0, n0.tr, Nat.zero_le _, by simpa using hl⟩, ?_⟩
        rintro k m H2 ⟨rfl, hk, kH, P2, ρ2, FE2, acc, F2, S2, T2, t2, ha, hq⟩
        have kP : ∀ b, P1 b → P2 b := t2.mono
        by_cases hlt : k < ds.length
        · have hd : ds[k]? = some ds[k] := List.getElem?_eq_getElem hlt
          obtain ⟨go, yl⟩ := wk.go P2 H2 k ds[k] S2.tab kP kH hd
          rw [List.drop_eq_getElem_cons hlt] at hq
          refine .inr ⟨go, fun H' => (∀ b o, P1 b → H1 b = some o → NT o → H' b = some o) ∧ ∃ P3 ρ3 FE3 acc3 F3, Stt K P3 H' ρ3 (wipe σ vs) FE3 ∧ Tmp K P3 H' FE3 (.lst true acc3) (.ref A) F3 ∧ Tr P1 H1 (U FE1) P3 H' (fun b => U FE3 b ∨ F3 b) ∧
              acc3.length ≤ k + 1 ∧ loopC t c f vs (ds.drop (k + 1)) acc3 ρ3 = .ok accF ρF, fun H' ⟨k1, z⟩ => ⟨ds.length - (k + 1), by omega, rfl, hlt, k1, z⟩, fun x H3 y => ?_⟩
          obtain ⟨P3, n3, r3⟩ := yl x H3 y
          have S3 := n3.stt S2
          have u3 : Tr P2 H2 (U FE2) P3 H3 (fun b => U FE2 b ∨ E_ b) := n3.tr
          have T3 := (T2.step S2 u3).1
          have t3 : Tr P1 H1 (U FE1) P3 H3 (fun b => U FE2 b ∨ F2 b) := (t2.seq u3).less fun b z => z.elim (fun z => .inl (.inl z)) .inr
          refine ⟨P3, ρ2, FE2, ds[k], E_, S3, ⟨r3, fun b z => z.elim⟩, ?_⟩
          simp only [loopC] at hq
          cases e1 : t ds[k] ρ2 with
          | none => simp only [e1] at hq; cases hq
          | some ρ4 =>
            simp only [e1] at hq
            intro σ4 P4 H4 FE4 S4 u4' k4
            have u4 : Tr P3 H3 (U FE2) P4 H4 (fun b => U FE4 b ∨ E_ b) := ⟨fun b o e n => u4'.frame b o e fun z => z.elim n False.elim, u4'.mono, fun b z => (u4'.back b z).imp id fun z => z.imp (fun z => z.elim id False.elim) id, fun b z => (u4'.sub b (z.elim id False.elim)).imp (fun z => z.elim id False.elim) id, u4'.alive⟩
            have T4 := (T3.step S3 u4).1
            have t4 : Tr P1 H1 (U FE1) P4 H4 (fun b => U FE4 b ∨ F2 b) := (t3.seq u4).less fun b z => z.elim (fun z => .inl (.inl z)) .inr
            have hw : wipe σ4 vs = wipe σ vs := by
              refine wipe_eq (k4.1.trans (wipe_length _ _)) fun j hj => ?_
              by_cases hj2 : j < n
              · rw [k4.2 j (by rw [hkp]; exact List.mem_filter.mpr ⟨List.mem_range.mpr hj2, decide_eq_true hj⟩), wipe_get hj]
              · have l4 : σ4.length = σ.length := k4.1.trans (wipe_length _ _)
                rw [List.getElem?_eq_none (by omega), List.getElem?_eq_none (by omega)]
            refine ⟨hw, P4, ρ4, FE4, S4, ?_⟩
            cases e2 : c ρ4 with
            | exc x ρ5 => simp only [e2] at hq; cases hq
            | stk => simp only [e2] at hq; cases hq
            | ok b ρ5 =>
              intro P5 H5 FE5 S5 u5'
              have u5 : Tr P4 H4 (U FE4) P5 H5 (fun b => U FE5 b ∨ E_ b) := u5'.less fun b z => z.elim id False.elim
              have T5 := (T4.step S4 u5).1
              have t5 : Tr P1 H1 (U FE1) P5 H5 (fun b => U FE5 b ∨ F2 b) := (t4.seq u5).less fun b z => z.elim (fun z => .inl (.inl z)) .inr
              cases b with
              | false =>
                simp only [e2] at hq
                exact ⟨fun b o p e => t5.frame b o e fun ⟨j, z⟩ => (S1.fin j b z).2 p, P5, wipeE ρ5 vs, FE5, acc, F2, S5.wipe2 hw, T5, t5, by omega, hq⟩
              | true =>
                simp only [e2] at hq
                refine ⟨P5, ρ5, FE5, S5, ?_⟩
                cases e3 : f ρ5 with
                | exc x ρ6 => simp only [e3] at hq; cases hq
                | stk => simp only [e3] at hq; cases hq
                | ok d ρ6 =>
                  simp only [e3] at hq
                  intro v P6 H6 FE6 F6 S6 T6 u6
                  obtain ⟨T7, dj⟩ := T5.step S5 u6
                  have t6 : Tr P1 H1 (U FE1) P6 H6 (fun b => U FE6 b ∨ (F2 b ∨ F6 b)) := (t5.seq u6).less fun b z => by
                    rcases z with z | z | z
                    · exact .inl (.inl z)
                    · exact .inr z
                    · exact .inl (.inr z)
                  obtain ⟨r7, o7⟩ := T7
                  cases r7 with
                  | @lstO _ vsa _ _ F' ea fA s rs =>
                    have nA6 := o7 A (fA rfl)
                    have nF6 : ¬ F6 A := fun z => dj A (fA rfl) z
                    have nF' : ¬ F' A := fun z => (s A z).2 rfl
                    have la : vsa.length < sizeLine := by
                      rw [← rls_len rs]
                      exact Nat.lt_of_le_of_lt ha (Nat.lt_of_lt_of_le hlt hc.2)
                    refine ⟨vsa, ea, la, fun b o p e => ?_, P6, wipeE ρ6 vs, FE6, acc ++ [d], fun b => F2 b ∨ F6 b, (S6.write ea .lst nA6.2.1 nA6.2.2).wipe2 hw, ⟨.lstO (F' := fun b => F' b ∨ F6 b) upd_same (fun z => .inl (fA z)) (fun b z => z.elim (fun z => ⟨.inl (s b z).1, (s b z).2⟩) fun z => ⟨.inr z, fun w => nF6 (by rw [← w]; exact z)⟩) ?_, fun b z => ?_⟩,
                      t6.write (.inr (.inl (fA rfl))), by rw [List.length_append, List.length_singleton]; omega, hq⟩
                    · rw [upd_ne]
                      · exact t6.frame b o e fun ⟨j, z⟩ => (S1.fin j b z).2 p
                      · intro w; subst w; exact nP1 p
                    · have mv : ∀ {F : AS} {d : D} {v : V}, Rl true K P6 H6 d v F → ¬ F A → Rl true K P6 (upd H6 A (.lst (vsa ++ [v]))) d v F := fun r nz => rl_mono r (fun _ q => q) (fun b o e q _ => by
                        rw [upd_ne]
                        · exact e
                        · intro w; subst w; exact (q rfl).elim nA6.2.1 nz) fun _ q => q
                      refine rls_snoc (F1 := F') (F2 := F6) (rls_mono rs (fun _ q => q) (fun b o e q _ => ?_) fun _ q => q) (mv T6.rl nF6) (fun b z => .inl z) (fun b z => .inr z) fun b z w => dj b (s b z).1 w
                      rw [upd_ne]
                      · exact e
                      · intro w; subst w; exact (q rfl).elim nA6.2.1 nF'
                    · have h : H6 b ≠ none ∧ ¬ P6 b ∧ ¬ U FE6 b := z.elim (o7 b) (T6.own b)
                      refine ⟨?_, h.2⟩
                      by_cases w : b = A
                      · subst w; rw [upd_same]; simp
                      · rw [upd_ne w]; exact h.1
        · have e : k = ds.length := by omega
          subst e
          rw [List.drop_length] at hq
          simp only [loopC] at hq
          cases hq
          have hU : ∀ b, U (fun j b => if j ∈ vs then False else FE2 j b) b → U FE2 b := fun b ⟨j, z⟩ => by
            have z : (if j ∈ vs then False else FE2 j b) := z
            by_cases hj : j ∈ vs
            · rw [if_pos hj] at z; exact z.elim
            · rw [if_neg hj] at z; exact ⟨j, z⟩
          refine .inl ⟨wk.stop H2 kH, q (.ref A) P2 H2 (fun j b => if j ∈ vs then False else FE2 j b) F2 ⟨S2.pin, fun j b z => ?_, fun j j' b z w => ?_, fun j d z => ?_, ?_, S2.tab⟩ ⟨T2.rl, fun b z => ⟨(T2.own b z).1, (T2.own b z).2.1, fun w => (T2.own b z).2.2 (hU b w)⟩⟩ ?_⟩
          · have z : (if j ∈ vs then False else FE2 j b) := z
            by_cases hj : j ∈ vs
            · rw [if_pos hj] at z; exact z.elim
            · rw [if_neg hj] at z; exact S2.fin j b z
          · have z : (if j ∈ vs then False else FE2 j b) := z
            have w : (if j' ∈ vs then False else FE2 j' b) := w
            by_cases hj : j ∈ vs
            · rw [if_pos hj] at z; exact z.elim
            · rw [if_neg hj] at z
              by_cases hj' : j' ∈ vs
              · rw [if_pos hj'] at w; exact w.elim
              · rw [if_neg hj'] at w; exact S2.dj j j' b z w
          · by_cases hj : j ∈ vs
            · have z1 := backE_in hj z
              obtain ⟨v, e1, r1⟩ := S1.rel j d z1
              refine ⟨v, e1, ?_⟩
              have hi : isImm d = true := by
                have := List.all_eq_true.mp hc.1 j hj
                simpa only [z1] using this
              exact rl_mono (z := true) (F := E_) (rl_imm r1 hi) kP (fun b o e p => kH b o ((p rfl).elim id False.elim) e) fun b z => z.elim
            · rw [backE_get hj] at z
              obtain ⟨v, e1, r1⟩ := S2.rel j d z
              rw [wipe_get hj] at e1
              exact ⟨v, e1, rl_mono r1 (fun _ q => q) (fun _ _ e _ _ => e) fun b z => by show (if j ∈ vs then False else FE2 j b); rw [if_neg hj]; exact z⟩
          · rw [backE_len]
            have := S2.len
            rw [wipe_length] at this
            exact this
          · exact t1.trans (t2.less fun b z => z.imp (hU b) id)
    · simp only [if_neg hc] at q
end
end Hap
namespace Hap
open PySem PySem.Spec PyProof.Rows L2
variable [TabC]
section
variable {X : Cx} {RX : RXR} {W : WX}
theorem de_lc {e : Expr} {i : Ev → R (List D)} {t : D → Ev → Option Ev} {c : Ev → R Bool} {f : Ev → R D} {kp vs : List Nat} (hkp : kp = (List.range X.N.length).filter fun j => decide (j ∉ vs))
    (h : PE X e (tLcD X.K RX W i t c f kp vs)) : DE X RX W e (fLc i t c f vs) := ⟨fun pins s σ H Q I q => h.run pins s σ H Q I (lc_ok hkp I.len q)⟩
theorem ds_setLc {s : Stmt} {n : Nat} {i : Ev → R (List D)} {t : D → Ev → Option Ev} {c : Ev → R Bool} {f : Ev → R D} {kp kpo vs : List Nat} (hkp : kp = (List.range X.N.length).filter fun j => decide (j ∉ vs))
    (h : PS X s (tAsg (tLcD X.K RX W i t c f kp vs) (gName n))) (hk : n ∉ kpo) : DS X RX W kpo s (fAsg (fLc i t c f vs) (gN n)) :=
  ds_set ⟨fun pins s σ H D I q => h.run pins s σ H D I (lc_ok hkp I.len q)⟩ hk
theorem dts_nil : PTs X [] (tT X.K RX W fun ρ => .ok true ρ) := ⟨fun pins s σ H Q I ⟨P, ρ, FE, S, q⟩ => pts_nil.run pins s σ H Q I (q P H FE S Tr.refl)⟩
theorem dts_one {c : Expr} {f : Ev → R Bool} (h : DT X RX W c f) : PTs X [c] (tT X.K RX W f) := pts_one h
end
inductive RF where
  | rt (d : D) (outs : Ev)
  | exc (x : DX) (outs : Ev)
  | stk
abbrev Fn := List D → RF
def spD (K : PySem.W.Frag) (RX : RXR) (io : List Bool) (sem : Fn) : Sp := fun vs H Q E => vs.length = io.length ∧ ∃ P ds FA, Stt K P H (ds.map some) (vs.map some) FA ∧ (∀ i, io[i]? ≠ some true → ∀ b, ¬ FA i b) ∧ match sem ds with
  | .rt d outs => ∀ v P' H' FA' F, Stt K P' H' outs (vs.map some) FA' → Tmp K P' H' FA' d v F → Tr P H (U FA) P' H' (fun b => U FA' b ∨ F b) → Q v H'
  | .exc x outs => ∀ cls dx P' H' FA', Stt K P' H' outs (vs.map some) FA' → Tr P H (U FA) P' H' (U FA') → RX x P' H' cls dx → E cls dx H'
  | .stk => False
def outsOf : List Bool → Ev → Ev
  | [], _ => []
  | _ :: bs, [] => none :: outsOf bs []
  | b :: bs, o :: os => (if b = true then o else none) :: outsOf bs os
omit [TabC] in
theorem outsOf_len : ∀ (io : List Bool) (ρ : Ev), (outsOf io ρ).length = io.length
  | [], _ => rfl
  | _ :: bs, [] => congrArg (· + 1) (outsOf_len bs [])
  | _ :: bs, _ :: os => congrArg (· + 1) (outsOf_len bs os)
omit [TabC] in
theorem outsOf_get : ∀ {io : List Bool} {ρ : Ev} {i : Nat} {d : D}, (outsOf io ρ)[i]? = some (some d) → io[i]? = some true ∧ ρ[i]? = some (some d)
  | [], _, _, _, h => by simp [outsOf] at h
  | _ :: bs, [], 0, _, h => by simp [outsOf] at h
  | _ :: bs, [], i + 1, d, h => by
    simp only [outsOf, List.getElem?_cons_succ] at h
    have := outsOf_get h
    simp at this
  | b :: bs, o :: os, 0, d, h => by
    simp only [outsOf, List.getElem?_cons_zero] at h
    cases b with
    | true => simp only [if_pos] at h; exact ⟨rfl, h⟩
    | false => simp at h
  | b :: bs, o :: os, i + 1, d, h => by
    simp only [outsOf, List.getElem?_cons_succ] at h
    obtain ⟨h1, h2⟩ := outsOf_get h
    exact ⟨by simpa using h1, by simpa using h2⟩
/-- what a def does, by its body -/
def semOf (io : List Bool) (n : Nat) (g : Ev → RS) : Fn := fun ds => match g (ds.map some ++ List.replicate (n - ds.length) none) with
  | .nx ρ => .rt .non (outsOf io ρ)
  | .rt d ρ => .rt d (outsOf io ρ)
  | .exc x ρ => .exc x (outsOf io ρ)
  | _ => .stk
/-- the places of what is changed -/
def kpOf (io : List Bool) : List Nat := (List.range io.length).filter fun i => io[i]? == some true
omit [TabC] in
theorem kpOf_in {io : List Bool} {i : Nat} (h : io[i]? = some true) : i ∈ kpOf io := by
  refine List.mem_filter.mpr ⟨List.mem_range.mpr (List.getElem?_eq_some_iff.mp h).1, ?_⟩
  rw [h]; rfl
section
variable {P : Program} {w : World} {K : PySem.W.Frag} {mg : Str → Option Value} {base : Heap} {RX : RXR}
omit [TabC] in
/-- around a body nothing is let out -/
theorem takesN0 {X : Cx} : L2N.Takes X (fun _ _ _ _ => False) := fun _ _ x => by
  obtain ⟨_, _, _, _, _, _, _, _, _, _, _, _, _, _, _, _, z⟩ := x
  exact z.elim
theorem fn_okL {x qual : Str} {st : Stmt} {f : Addr} {oc : Value} {od an : Option Addr} {kV doc pm cdv ct : Value} {osl : Array (Option Value)} {N ps : List Str} {k n : Nat} {io : List Bool} {g : Ev → RS} (lk : K.lookup f = some ⟨oc, od, .func (PySem.W.fnOf x qual (defArgs st) (defBody st) (defScope st) .none kV doc pm an cdv ct), osl⟩) (hcd : PySem.W.codeIn K cdv qual = true) (S : FnScope N ps (defScope st)) (hl : ps.length = io.length) (hn : N.length = n)
    (body : ∀ (A : Around) (outer : List Env) (s : Shared) (H : Hp) (E : XK), Room k (A.deeper (envOfC qual (defScope st) s.heap.objs.size f cdv)) →
      DSs (cxOf (L2N.CX P w) P w K mg base N qual (defScope st) f cdv A outer s H E) RX (fun cls d _ H => E cls d H) (kpOf io) (defBody st) g) :
    FnOk P w K mg base (L2N.CX P w) (k + 1) f (PySem.W.fnOf x qual (defArgs st) (defBody st) (defScope st) .none kV doc pm an cdv ct) ps (spD K RX io (semOf io n g)) := by
  refine fn_of lk hcd S (fun vs H Q E h => h.1.trans hl.symm) fun A outer s H vs Q E hr h => ⟨_, body A outer s H E hr, ?_⟩
  obtain ⟨hlen, Pp, ds, FA, St0, hio, h⟩ := h
  have ld : ds.length = vs.length := by simpa using St0.len
  have lps : ps.length ≤ N.length := by
    have := congrArg List.length S.pre
    rw [List.length_take] at this
    omega
  have lvn : vs.length ≤ n := by omega
  refine ⟨Pp, ds.map some ++ List.replicate (n - ds.length) none, FA, ⟨St0.pin, St0.fin, St0.dj, fun i d e => ?_, ?_, St0.tab⟩, ?_⟩
  · by_cases hi : i < ds.length
    · rw [List.getElem?_append_left (by simpa using hi)] at e
      obtain ⟨v, e1, r⟩ := St0.rel i d e
      refine ⟨v, ?_, r⟩
      unfold L2.start
      rw [List.getElem?_append_left (by rw [List.length_map]; omega)]
      exact e1
    · rw [List.getElem?_append_right (by simpa using hi), List.getElem?_replicate] at e
      split at e <;> cases e
  · unfold L2.start
    simp only [List.length_append, List.length_map, List.length_replicate]
    omega
  have back : ∀ {σ' : L2.St} {P' : AS} {H' : Hp} {FE' : FP} {ρ' : Ev}, Stt K P' H' ρ' σ' FE' → Kp (kpOf io) (L2.start N vs) σ' → Stt K P' H' (outsOf io ρ') (vs.map some) FE' := by
    intro σ' P' H' FE' ρ' S' kk
    refine ⟨S'.pin, S'.fin, S'.dj, fun i d e => ?_, ?_, S'.tab⟩
    · obtain ⟨h1, h2⟩ := outsOf_get e
      obtain ⟨v, e1, r⟩ := S'.rel i d h2
      refine ⟨v, ?_, r⟩
      rw [kk.2 i (kpOf_in h1)] at e1
      unfold L2.start at e1
      have hi : i < vs.length := by
        have := (List.getElem?_eq_some_iff.mp h1).1
        omega
      rw [List.getElem?_append_left (by simpa using hi)] at e1
      exact e1
    · rw [outsOf_len, List.length_map, hlen]
  unfold semOf at h
  cases e : g (ds.map some ++ List.replicate (n - ds.length) none) with
  | nx ρ' => simp only [e] at h; exact fun σ' P' H' FE' S' t k' => h .non P' H' FE' E_ (back S' k') ⟨.non, fun b z => z.elim⟩ (t.less fun b z => z.elim id False.elim)
  | rt d ρ' => simp only [e] at h; exact fun v σ' P' H' FE' F' S' T' t k' => h v P' H' FE' F' (back S' k') T' t
  | exc x ρ' => simp only [e] at h; exact fun cls dx σ' P' H' FE' S' t k' r => h cls dx P' H' FE' (back S' k') t r
  | bk ρ' => simp only [e] at h
  | ct ρ' => simp only [e] at h
  | stk => simp only [e] at h
theorem fn_ok {x qual : Str} {st : Stmt} {f : Addr} {fd : FuncData} {N ps : List Str} {k n : Nat} {io : List Bool} {g : Ev → RS} (F : Fun K x qual st f fd) (S : FnScope N ps (defScope st)) (hl : ps.length = io.length) (hn : N.length = n)
    (body : ∀ (cdv : Value) (A : Around) (outer : List Env) (s : Shared) (H : Hp) (E : XK), Room k (A.deeper (envOfC qual (defScope st) s.heap.objs.size f cdv)) →
      DSs (cxOf (L2N.CX P w) P w K mg base N qual (defScope st) f cdv A outer s H E) RX (fun cls d _ H => E cls d H) (kpOf io) (defBody st) g) :
    FnOk P w K mg base (L2N.CX P w) (k + 1) f fd ps (spD K RX io (semOf io n g)) := by
  obtain ⟨oc, od, kV, doc, pm, an, cdv, ct, osl, rfl, lk, hcd⟩ := F.ex
  exact fn_okL lk hcd S hl hn (body cdv)
end
def callR (r : RF) (ρ : Ev) (upd : Ev → Ev) : R D := match r with
  | .rt d outs => .ok d (upd outs)
  | .exc x outs => .exc x (upd outs)
  | .stk => .stk
def fCall (n : Nat) (sem : Fn) (fa : Ev → R (List D)) : Ev → R D := fun ρ => (fa ρ).bind fun ds ρ1 => if ds.length = n then callR (sem (frzs ds)) ρ1 fun _ => ρ1 else .stk
def hd0 (outs : Ev) : Option D := match outs with
  | o :: _ => o
  | [] => none
/-- the first argument is a thing of one's own, at slot j -/
def fCallIO (j n : Nat) (sem : Fn) (fa : Ev → R (List D)) : Ev → R D := fun ρ => match ρ[j]? with
  | some (some _) => (fa ρ).bind fun ds ρ1 => (match ρ1[j]? with
    | some (some d0) => if ds.length + 1 = n then callR (sem (d0 :: frzs ds)) ρ1 fun outs => ρ1.set j (hd0 outs) else .stk
    | _ => .stk)
  | _ => .stk
section
variable {X : Cx} {RX : RXR} {W : WX} {k n : Nat} {f : Addr} {fd : FuncData} {ps : List Str} {sem : Fn} {x : Str} {p pos : Pos} {e : Expr} {es : List Expr} {fa : Ev → R (List D)}
omit [TabC] in
theorem frzs_len : ∀ ds : List D, (frzs ds).length = ds.length
  | [] => rfl
  | _ :: ds => congrArg (· + 1) (frzs_len ds)
theorem de_call (F : FnOk X.prog X.w X.K X.mg X.base (L2N.CX X.prog X.w) k f fd ps (spD X.K RX (List.replicate n false) sem)) (hr : Room k X.A) (hg : Gl X x) (hm : X.mg x = some (.ref f)) (hk : PySem.W.keepIn X.K (.ref f) = true) (hb : Binds X.K fd ps []) (tk : L2N.Takes X W)
    (ha : DA X RX W (e :: es) fa) (hdb : (x == ("__debug__" : Str)) = false := by decide)
    (he : starEach (e :: es) X.env = (false, eval e X.env) :: starEach es X.env := by rfl) (hpl : (backTo pos (starEach es X.env)).any (·.1) = false := by rfl) : DE X RX W (.Call (.Name x p) (e :: es) [] pos) (fCall n sem fa) := by
  refine pe_imp (pe_callS F hr hg hm hk hb (fun σ => L2N.passAt tk σ) ha hdb he hpl) fun σ H Q q => ?_
  obtain ⟨P, ρ, FE, S, q⟩ := q
  refine ⟨P, ρ, FE, S, ?_⟩
  unfold fCall at q
  cases e1 : fa ρ with
  | exc x ρ1 => simp only [e1, R.bind] at q; exact q
  | stk => simp only [e1, R.bind] at q
  | ok ds ρ1 =>
    simp only [e1, R.bind] at q
    intro vs P1 H1 FE1 F1 S1 T1 t1
    by_cases hl : ds.length = n
    · simp only [if_pos hl] at q
      have lv := rls_len T1.rl
      have Sc := S1.give fun b z => ⟨(T1.own b z).1, (T1.own b z).2.2⟩
      refine ⟨by rw [List.length_replicate]; omega, fun b => P1 b ∨ F1 b, frzs ds, fun _ => E_, ⟨Sc.pin, fun i b z => z.elim, fun i j b z => z.elim, fun i d e2 => ?_, ?_, Sc.tab⟩, fun i _ b z => z.elim, ?_⟩
      · rw [List.getElem?_map] at e2
        cases e3 : (frzs ds)[i]? with
        | none => rw [e3] at e2; cases e2
        | some d' =>
          rw [e3] at e2; cases e2
          obtain ⟨v, e4, r⟩ := rls_get (rls_frz (z := true) (F' := E_) T1.rl (fun b z => Or.inl z) fun b z => Or.inr z) e3
          exact ⟨v, by rw [List.getElem?_map, e4]; rfl, r⟩
      · rw [List.length_map, List.length_map, frzs_len]; exact lv
      · cases e2 : sem (frzs ds) with
        | stk => simp only [e2, callR] at q
        | rt d outs =>
          simp only [e2, callR] at q
          intro v P2 H2 FA' F2 S2 T2 t2
          have n2 : New (fun b => P1 b ∨ F1 b) H1 P2 H2 F2 := ⟨fun b o e => t2.frame b o e fun ⟨_, z⟩ => z, t2.alive, fun _ => S2.tab, t2.mono, fun b z => (t2.back b z).imp id fun w => ⟨w.elim (fun ⟨_, z⟩ => z.elim) id, S2.pin b z⟩, fun b z => ⟨(t2.sub b (.inr z)).elim (fun ⟨_, z⟩ => z.elim) id, (T2.own b z).1, (T2.own b z).2.1⟩⟩
          exact q v P2 H2 FE1 F2 (n2.stt Sc) (n2.tmp Sc T2.rl) (t1.give.trans n2.tr)
        | exc xx outs =>
          simp only [e2, callR] at q
          intro cls dx P2 H2 FA' S2 t2 r
          have n2 : New (fun b => P1 b ∨ F1 b) H1 P2 H2 E_ := ⟨fun b o e => t2.frame b o e fun ⟨_, z⟩ => z, t2.alive, fun _ => S2.tab, t2.mono, fun b z => (t2.back b z).imp id fun w => ⟨w.elim (fun ⟨_, z⟩ => z.elim) id, S2.pin b z⟩, fun b z => z.elim⟩
          exact q cls dx P2 H2 FE1 (n2.stt Sc) (t1.give.trans n2.tr.less') r
    · simp only [if_neg hl] at q
theorem de_callIO {j : Nat} {m : Nat} (F : FnOk X.prog X.w X.K X.mg X.base (L2N.CX X.prog X.w) k f fd ps (spD X.K RX (true :: List.replicate m false) sem)) (hr : Room k X.A) (hg : Gl X x) (hm : X.mg x = some (.ref f)) (hk : PySem.W.keepIn X.K (.ref f) = true) (hb : Binds X.K fd ps []) (tk : L2N.Takes X W)
    (hv : PE X e (tVar j)) (ha : DA X RX W es fa) (hdb : (x == ("__debug__" : Str)) = false := by decide)
    (he : starEach (e :: es) X.env = (false, eval e X.env) :: starEach es X.env := by rfl) (hpl : (backTo pos (starEach es X.env)).any (·.1) = false := by rfl) : DE X RX W (.Call (.Name x p) (e :: es) [] pos) (fCallIO j (m + 1) sem fa) := by
  refine pe_imp (pe_callS F hr hg hm hk hb (fun σ => L2N.passAt tk σ) (pa_cons hv ha he) hdb he hpl) fun σ H Q q => ?_
  obtain ⟨P, ρ, FE, S, q⟩ := q
  unfold fCallIO at q
  cases e0 : ρ[j]? with
  | none => simp only [e0] at q
  | some o =>
    cases o with
    | none => simp only [e0] at q
    | some dd =>
    simp only [e0] at q
    obtain ⟨v0, ev0, _⟩ := S.rel j dd e0
    refine ⟨v0, ev0, P, ρ, FE, S, ?_⟩
    cases e1 : fa ρ with
    | exc x ρ1 => simp only [e1, R.bind] at q; exact q
    | stk => simp only [e1, R.bind] at q
    | ok ds ρ1 =>
      simp only [e1, R.bind] at q
      intro vs P1 H1 FE1 F1 S1 T1 t1
      cases e5 : ρ1[j]? with
      | none => simp only [e5] at q
      | some o =>
        cases o with
        | none => simp only [e5] at q
        | some d0 =>
        simp only [e5] at q
        by_cases hl : ds.length + 1 = m + 1
        · simp only [if_pos hl] at q
          have lv := rls_len T1.rl
          have Sc := S1.give fun b z => ⟨(T1.own b z).1, (T1.own b z).2.2⟩
          obtain ⟨v0', ev0', r0⟩ := Sc.rel j d0 e5
          rw [ev0] at ev0'; cases ev0'
          have nE : ∀ b, U (fun i b => i = 0 ∧ FE1 j b) b → FE1 j b := fun b ⟨_, z⟩ => z.2
          have Stc : Stt X.K (fun b => P1 b ∨ F1 b) H1 ((d0 :: frzs ds).map some) ((v0 :: vs).map some) (fun i b => i = 0 ∧ FE1 j b) := by
            refine ⟨Sc.pin, fun i b z => Sc.fin j b z.2, fun i i' b z w => z.1.trans w.1.symm, fun i d e2 => ?_, ?_, Sc.tab⟩
            · cases i with
              | zero =>
                simp only [List.map_cons, List.getElem?_cons_zero] at e2 ⊢
                cases e2
                exact ⟨v0, rfl, rl_mono r0 (fun _ q => q) (fun _ _ e _ _ => e) fun b z => by first | exact ⟨rfl, z⟩ | exact ⟨trivial, z⟩⟩
              | succ i =>
                simp only [List.map_cons, List.getElem?_cons_succ] at e2 ⊢
                rw [List.getElem?_map] at e2
                cases e3 : (frzs ds)[i]? with
                | none => rw [e3] at e2; cases e2
                | some d' =>
                  rw [e3] at e2; cases e2
                  obtain ⟨v, e4, r⟩ := rls_get (rls_frz (z := true) (F' := E_) T1.rl (fun b z => Or.inl z) fun b z => Or.inr z) e3
                  exact ⟨v, by rw [List.getElem?_map, e4]; rfl, rl_mono r (fun _ q => q) (fun _ _ e _ _ => e) fun b z => z.elim⟩
            · simp only [List.length_map, List.length_cons, frzs_len]; omega
          -- the state behind the call
          have after : ∀ {P2 : AS} {H2 : Hp} {FA' : FP} {F2 : AS} {outs : Ev}, Stt X.K P2 H2 outs ((v0 :: vs).map some) FA' → Tr (fun b => P1 b ∨ F1 b) H1 (U fun i b => i = 0 ∧ FE1 j b) P2 H2 (fun b => U FA' b ∨ F2 b) → (∀ b, F2 b → ¬ U FA' b) →
              Stt X.K P2 H2 (ρ1.set j (hd0 outs)) σ (fun i b => (i = j ∧ FA' 0 b) ∨ (i ≠ j ∧ FE1 i b)) ∧ Tr P H (U FE) P2 H2 (fun b => U (fun i b => (i = j ∧ FA' 0 b) ∨ (i ≠ j ∧ FE1 i b)) b ∨ F2 b) ∧
                ∀ b, F2 b → ¬ U (fun i b => (i = j ∧ FA' 0 b) ∨ (i ≠ j ∧ FE1 i b)) b := by
            intro P2 H2 FA' F2 outs S2 t2 hd2
            have keep : ∀ b o, H1 b = some o → ¬ FE1 j b → NT o → H2 b = some o := fun b o e n => t2.frame b o e fun z => n (nE b z)
            have new0 : ∀ b, FA' 0 b → FE1 j b ∨ H1 b = none := fun b z => (t2.sub b (.inl ⟨0, z⟩)).imp (nE b) id
            have newF : ∀ b, F2 b → FE1 j b ∨ H1 b = none := fun b z => (t2.sub b (.inr z)).imp (nE b) id
            refine ⟨⟨S2.pin, fun i b z => ?_, fun i i' b z w => ?_, fun i d e2 => ?_, by simpa using S1.len, S2.tab⟩, ⟨fun b o e n nt => ?_, fun b z => t2.mono b (.inl (t1.mono b z)), fun b z => ?_, fun b z => ?_, fun b z => t2.alive b (t1.alive b z)⟩, fun b z w => ?_⟩
            · rcases z with z | z
              · exact S2.fin 0 b z.2
              · obtain ⟨h1, h2⟩ := Sc.fin i b z.2
                refine ⟨t2.alive b h1, fun w => ?_⟩
                rcases t2.back b w with w | w | w
                · exact h2 w
                · exact z.1 (S1.dj i j b z.2 (nE b w))
                · exact h1 w
            · rcases z with z | z <;> rcases w with w | w
              · exact z.1.trans w.1.symm
              · exact ((new0 b z.2).elim (fun q => w.1 (S1.dj _ _ b w.2 q)) fun q => (S1.fin _ b w.2).1 q).elim
              · exact ((new0 b w.2).elim (fun q => z.1 (S1.dj _ _ b z.2 q)) fun q => (S1.fin _ b z.2).1 q).elim
              · exact S1.dj i i' b z.2 w.2
            · by_cases hi : i = j
              · subst hi
                have hlt : i < ρ1.length := (List.getElem?_eq_some_iff.mp e5).1
                rw [List.getElem?_set_self hlt] at e2
                have e3 : hd0 outs = some d := Option.some.inj e2
                cases outs with
                | nil => exact (nomatch (show (none : Option D) = some d from e3))
                | cons o os =>
                  obtain ⟨v, e4, r⟩ := S2.rel 0 d (by show some o = some (some d); rw [show o = some d from e3])
                  simp only [List.map_cons, List.getElem?_cons_zero] at e4
                  cases e4
                  exact ⟨v0, ev0, rl_mono r (fun _ q => q) (fun _ _ e _ _ => e) fun b z => .inl ⟨rfl, z⟩⟩
              · rw [List.getElem?_set_ne (Ne.symm hi)] at e2
                obtain ⟨v, e4, r⟩ := S1.rel i d e2
                refine ⟨v, e4, rl_mono r (fun b z => t2.mono b (.inl z)) (fun b o e q => keep b o e fun z => ?_) fun b z => .inr ⟨hi, z⟩⟩
                rcases q rfl with q | q
                · exact (S1.fin j b z).2 q
                · exact hi (S1.dj i j b q z)
            · refine t2.frame b o (t1.frame b o e n nt) (fun z => ?_) nt
              exact (t1.sub b (.inl ⟨j, nE b z⟩)).elim n fun q => by rw [e] at q; cases q
            · rcases t2.back b z with z | z | z
              · rcases z with z | z
                · exact t1.back b z
                · exact (t1.sub b (.inr z)).elim (fun q => .inr (.inl q)) fun q => .inr (.inr q)
              · exact (t1.sub b (.inl ⟨j, nE b z⟩)).elim (fun q => .inr (.inl q)) fun q => .inr (.inr q)
              · refine .inr (.inr ?_)
                cases e : H b with
                | none => rfl
                | some o => exact absurd z (t1.alive b (by rw [e]; simp))
            · have up : FE1 j b ∨ H1 b = none → U FE b ∨ H b = none := fun q => q.elim (fun q => t1.sub b (.inl ⟨j, q⟩)) fun q => by
                refine .inr ?_
                cases e : H b with
                | none => rfl
                | some o => exact absurd q (t1.alive b (by rw [e]; simp))
              rcases z with ⟨i, z | z⟩ | z
              · exact up (new0 b z.2)
              · exact t1.sub b (.inl ⟨i, z.2⟩)
              · exact up (newF b z)
            · obtain ⟨i, w | w⟩ := w
              · exact hd2 b z ⟨0, w.2⟩
              · exact (newF b z).elim (fun q => w.1 (S1.dj _ _ b w.2 q)) fun q => (S1.fin _ b w.2).1 q
          refine ⟨by simp only [List.length_cons, List.length_replicate]; omega, fun b => P1 b ∨ F1 b, d0 :: frzs ds, _, Stc, fun i hi b z => ?_, ?_⟩
          · rw [z.1] at hi; exact hi rfl
          · cases e2 : sem (d0 :: frzs ds) with
            | stk => simp only [e2, callR] at q
            | rt d outs =>
              simp only [e2, callR] at q
              intro v P2 H2 FA' F2 S2 T2 t2
              obtain ⟨A1, A2, A3⟩ := after S2 t2 fun b z => (T2.own b z).2.2
              exact q v P2 H2 _ F2 A1 ⟨T2.rl, fun b z => ⟨(T2.own b z).1, (T2.own b z).2.1, A3 b z⟩⟩ A2
            | exc xx outs =>
              simp only [e2, callR] at q
              intro cls dx P2 H2 FA' S2 t2 r
              obtain ⟨A1, A2, A3⟩ := after (F2 := E_) S2 (t2.less fun b z => z.elim id False.elim) fun b z => z.elim
              exact q cls dx P2 H2 _ A1 A2.less' r
        · simp only [if_neg hl] at q
end
end Hap
namespace Hap
open PySem PySem.Spec PyProof.Rows L2
variable [TabC]
def asB (d : D) (ρ : Ev) : R Bool := match d with
  | .bl b => .ok b ρ
  | _ => .stk
def fTb (f : Ev → R D) : Ev → R Bool := fun ρ => (f ρ).bind asB
def fTv (f : Ev → Option D) : Ev → R Bool := fun ρ => match f ρ with
  | some (.bl b) => .ok b ρ
  | _ => .stk
def fAnd (f g : Ev → R Bool) : Ev → R Bool := fun ρ => (f ρ).bind fun b ρ1 => if b = true then g ρ1 else .ok false ρ1
def fOr (f g : Ev → R Bool) : Ev → R Bool := fun ρ => (f ρ).bind fun b ρ1 => if b = true then .ok true ρ1 else g ρ1
def fNot (f : Ev → R Bool) : Ev → R Bool := fun ρ => (f ρ).bind fun b ρ1 => .ok (!b) ρ1
/-- and, or, not as values -/
def fAndD (f g : Ev → R D) : Ev → R D := fun ρ => (f ρ).bind fun d ρ1 => match d with
  | .bl b => if b = true then g ρ1 else .ok (.bl false) ρ1
  | _ => .stk
def fOrD (f g : Ev → R D) : Ev → R D := fun ρ => (f ρ).bind fun d ρ1 => match d with
  | .bl b => if b = true then .ok (.bl true) ρ1 else g ρ1
  | _ => .stk
def fNotD (f : Ev → R D) : Ev → R D := fun ρ => (f ρ).bind fun d ρ1 => match d with
  | .bl b => .ok (.bl (!b)) ρ1
  | _ => .stk
def fIfE (c : Ev → R Bool) (f g : Ev → R D) : Ev → R D := fun ρ => (c ρ).bind fun b ρ1 => if b = true then f ρ1 else g ρ1
section
variable {K : PySem.W.Frag} {RX : RXR} {W : WX} {σ : L2.St} {H : Hp}
theorem t_val {f : Ev → R D} {Q : Bool → Hp → Prop} (h : tT K RX W (fTb f) σ H Q) : tE K RX W f σ H (fun x H' => ∃ k, x = .bl k ∧ Q k H') := by
  obtain ⟨P, ρ, FE, S, h⟩ := h
  refine ⟨P, ρ, FE, S, ?_⟩
  unfold fTb at h
  cases e : f ρ with
  | ok d ρ1 =>
    simp only [e, R.bind] at h
    cases d with
    | bl b =>
      simp only [asB] at h
      intro v P1 H1 FE1 F1 S1 T1 t1
      exact ⟨b, rl_bl T1.rl, h P1 H1 FE1 S1 t1.less'⟩
    | _ => simp only [asB] at h
  | exc x ρ1 => simp only [e, R.bind] at h; exact h
  | stk => simp only [e, R.bind] at h
theorem t_valV {f : Ev → Option D} {Q : Bool → Hp → Prop} (h : tT K RX W (fTv f) σ H Q) : tV K f σ H (fun x H' => ∃ k, x = .bl k ∧ Q k H') := by
  obtain ⟨P, ρ, FE, S, h⟩ := h
  refine ⟨P, ρ, FE, S, ?_⟩
  unfold fTv at h
  cases e : f ρ with
  | none => simp only [e] at h
  | some d =>
    cases d with
    | bl b =>
      simp only [e] at h
      intro v P1 H1 n1 r1
      exact ⟨b, rl_bl r1, h P1 H1 FE (n1.stt S) n1.tr.less'⟩
    | _ => simp only [e] at h
end
section
variable {X : Cx} {RX : RXR} {W : WX} {a b c : Expr} {pos : Pos}
abbrev DW (X : Cx) (RX : RXR) (W : WX) (e : Expr) (f : Ev → R Bool) : Prop := PW X e (tT X.K RX W f)
theorem dt_val {f : Ev → R D} (h : DE X RX W a f) (he : ∀ whole, isTrue a X.env whole = (do let v ← whole; standAt a.pos; holding [v] (truthy v)) := by intro _; rfl) : DT X RX W a (fTb f) :=
  pt_imp (pt_val h he) fun σ H Q q => t_val q
theorem dt_valV {f : Ev → Option D} (h : DV X a f) (he : ∀ whole, isTrue a X.env whole = (do let v ← whole; standAt a.pos; holding [v] (truthy v)) := by intro _; rfl) : DT X RX W a (fTv f) :=
  pt_imp (pt_val h he) fun σ H Q q => t_valV q
theorem dt_cmpV {op : CmpOp} {r : R2} {g : D → D → Option D} {f k : Ev → Option D} (ho : OpR X (compareOp op) r) (hv : VOp2 X.K r g) (ha : DV X a f) (hb : DV X b k) (hm : behindInMarks op b = false) : DT X RX W (.Compare a [op] [b] pos) (fTv (vOp2 g f k)) :=
  pt_imp (pt_cmpR ho ha hb hm) fun σ H Q q => v_op2 hv (t_valV q)
theorem dt_cmpEV {op : CmpOp} {r : R2} {g : D → D → Option D} {f : Ev → R D} {k : Ev → Option D} (ho : OpR X (compareOp op) r) (hv : VOp2 X.K r g) (ha : DE X RX W a f) (hb : DV X b k) (hm : behindInMarks op b = false) : DT X RX W (.Compare a [op] [b] pos) (fTb (fOp2V g f k)) :=
  pt_imp (pt_cmpR ho ha hb hm) fun σ H Q q => e_op2V hv (t_val q)
theorem dv_cmp {op : CmpOp} {r : R2} {g : D → D → Option D} {f k : Ev → Option D} (ho : OpR X (compareOp op) r) (hv : VOp2 X.K r g) (ha : DV X a f) (hb : DV X b k) (hm : behindInMarks op b = false) : DV X (.Compare a [op] [b] pos) (vOp2 g f k) :=
  pe_imp (pe_cmpR ho ha hb hm) fun σ H Q q => v_op2 hv q
theorem de_op {op : Operator} {r : R2} {g : D → D → Option D} {f k : Ev → R D} (ho : OpR X (binaryOp op) r) (hv : VOp2 X.K r g) (ha : DE X RX W a f) (hb : DE X RX W b k) : DE X RX W (.BinOp a op b pos) (fOp2 g f k) :=
  pe_imp (pe_op ho ha hb) fun σ H Q q => e_op2 hv q
theorem dv_op {op : Operator} {r : R2} {g : D → D → Option D} {f k : Ev → Option D} (ho : OpR X (binaryOp op) r) (hv : VOp2 X.K r g) (ha : DV X a f) (hb : DV X b k) : DV X (.BinOp a op b pos) (vOp2 g f k) :=
  pe_imp (pe_op ho ha hb) fun σ H Q q => v_op2 hv q
theorem de_opEV {op : Operator} {r : R2} {g : D → D → Option D} {f : Ev → R D} {k : Ev → Option D} (ho : OpR X (binaryOp op) r) (hv : VOp2 X.K r g) (ha : DE X RX W a f) (hb : DV X b k) : DE X RX W (.BinOp a op b pos) (fOp2V g f k) :=
  pe_imp (pe_op ho ha hb) fun σ H Q q => e_op2V hv q
theorem dv_un {op : UnaryOp} {r : V → Hp → VK → Prop} {g : D → Option D} {f : Ev → Option D} (ho : UnR X (unaryOp op) r) (hv : VOp1 X.K r g) (ha : DV X a f) : DV X (.UnaryOp op a pos) (vOp1 g f) :=
  pe_imp (pe_un ho ha) fun σ H Q q => v_op1 hv q
theorem de_ix {r : R2} {g : D → D → Option D} {f k : Ev → R D} (ho : IxR X r) (hv : VOp2 X.K r g) (ha : DE X RX W a f) (hb : DE X RX W b k) (hs : PlainIx b) : DE X RX W (.Subscript a b pos) (fOp2 g f k) :=
  pe_imp (pe_ix ho ha hb hs) fun σ H Q q => e_op2 hv q
theorem de_callB {x : Str} {p : Pos} {e : Expr} {es : List Expr} {r : List V → Hp → VK → Prop} {g : List D → Option D} {f : Ev → R (List D)} (h : PE X (.Call (.Name x p) (e :: es) [] pos) (tCB r (tA X.K RX W f))) (hv : VOpN X.K r g) : DE X RX W (.Call (.Name x p) (e :: es) [] pos) (fOpN g f) :=
  pe_imp h fun σ H Q q => e_opN hv q
theorem dv_callB {x : Str} {p : Pos} {e : Expr} {es : List Expr} {r : List V → Hp → VK → Prop} {g : List D → Option D} {f : Ev → Option (List D)} (h : PE X (.Call (.Name x p) (e :: es) [] pos) (tCB r (tAV X.K f))) (hv : VOpN X.K r g) : DV X (.Call (.Name x p) (e :: es) [] pos) (vOpN g f) :=
  pe_imp h fun σ H Q q => v_opN hv q
theorem dw_and1 {f : Ev → R Bool} (h : DT X RX W a f) : DW X RX W (.BoolOp .And [a] pos) f := pw_and1 h
theorem dw_or1 {f : Ev → R Bool} (h : DT X RX W a f) : DW X RX W (.BoolOp .Or [a] pos) f := pw_or1 h
theorem dw_and {rest : List Expr} {f g : Ev → R Bool} (h : DT X RX W a f) (k : DW X RX W (.BoolOp .And (b :: rest) pos) g) : DW X RX W (.BoolOp .And (a :: b :: rest) pos) (fAnd f g) := by
  refine pw_imp (pw_and h k) fun σ H Q q => ?_
  obtain ⟨P, ρ, FE, S, q⟩ := q
  refine ⟨P, ρ, FE, S, ?_⟩
  unfold fAnd at q
  cases e : f ρ with
  | ok d ρ1 =>
    simp only [e, R.bind] at q
    intro P1 H1 FE1 S1 t1
    cases d with
    | false => simp only [if_neg Bool.false_ne_true] at q ⊢; exact q P1 H1 FE1 S1 t1
    | true =>
      simp only [if_pos] at q ⊢
      refine ⟨P1, ρ1, FE1, S1, ?_⟩
      cases e2 : g ρ1 with
      | ok b ρ2 => simp only [e2] at q; exact fun P2 H2 FE2 S2 t2 => q P2 H2 FE2 S2 (t1.trans t2)
      | exc x ρ2 => simp only [e2] at q; exact fun cls dx P2 H2 FE2 S2 t2 r => q cls dx P2 H2 FE2 S2 (t1.trans t2) r
      | stk => simp only [e2] at q
  | exc x ρ1 => simp only [e, R.bind] at q; exact q
  | stk => simp only [e, R.bind] at q
theorem dw_or {rest : List Expr} {f g : Ev → R Bool} (h : DT X RX W a f) (k : DW X RX W (.BoolOp .Or (b :: rest) pos) g) : DW X RX W (.BoolOp .Or (a :: b :: rest) pos) (fOr f g) := by
  refine pw_imp (pw_or h k) fun σ H Q q => ?_
  obtain ⟨P, ρ, FE, S, q⟩ := q
  refine ⟨P, ρ, FE, S, ?_⟩
  unfold fOr at q
  cases e : f ρ with
  | ok d ρ1 =>
    simp only [e, R.bind] at q
    intro P1 H1 FE1 S1 t1
    cases d with
    | true => simp only [if_pos] at q ⊢; exact q P1 H1 FE1 S1 t1
    | false =>
      simp only [if_neg Bool.false_ne_true] at q ⊢
      refine ⟨P1, ρ1, FE1, S1, ?_⟩
      cases e2 : g ρ1 with
      | ok b ρ2 => simp only [e2] at q; exact fun P2 H2 FE2 S2 t2 => q P2 H2 FE2 S2 (t1.trans t2)
      | exc x ρ2 => simp only [e2] at q; exact fun cls dx P2 H2 FE2 S2 t2 r => q cls dx P2 H2 FE2 S2 (t1.trans t2) r
      | stk => simp only [e2] at q
  | exc x ρ1 => simp only [e, R.bind] at q; exact q
  | stk => simp only [e, R.bind] at q
theorem dt_not {f : Ev → R Bool} (h : DT X RX W a f) : DT X RX W (.UnaryOp .Not a pos) (fNot f) := by
  refine pt_imp (pt_not h) fun σ H Q q => ?_
  obtain ⟨P, ρ, FE, S, q⟩ := q
  refine ⟨P, ρ, FE, S, ?_⟩
  unfold fNot at q
  cases e : f ρ with
  | ok d ρ1 => simp only [e, R.bind] at q; exact q
  | exc x ρ1 => simp only [e, R.bind] at q; exact q
  | stk => simp only [e, R.bind] at q
theorem de_one {op} {f : Ev → R D} (h : DE X RX W a f) : DE X RX W (.BoolOp op [a] pos) f := pe_one h
theorem de_and {rest : List Expr} {f g : Ev → R D} (h : DE X RX W a f) (k : DE X RX W (.BoolOp .And (b :: rest) pos) g) : DE X RX W (.BoolOp .And (a :: b :: rest) pos) (fAndD f g) := by
  refine pe_imp (pe_and h k) fun σ H Q q => ?_
  obtain ⟨P, ρ, FE, S, q⟩ := q
  refine ⟨P, ρ, FE, S, ?_⟩
  unfold fAndD at q
  cases e : f ρ with
  | ok d ρ1 =>
    simp only [e, R.bind] at q
    intro v P1 H1 FE1 F1 S1 T1 t1
    cases d with
    | bl c =>
      refine ⟨c, rl_bl T1.rl, ?_⟩
      cases c with
      | false => simp only [if_neg Bool.false_ne_true] at q ⊢; exact q _ P1 H1 FE1 E_ S1 ⟨.bl, fun b z => z.elim⟩ (t1.less'.less fun b z => z.elim id False.elim)
      | true =>
        simp only [if_pos] at q ⊢
        refine ⟨P1, ρ1, FE1, S1, ?_⟩
        cases e2 : g ρ1 with
        | ok b ρ2 => simp only [e2] at q; exact fun w P2 H2 FE2 F2 S2 T2 t2 => q w P2 H2 FE2 F2 S2 T2 (t1.less'.trans t2)
        | exc x ρ2 => simp only [e2] at q; exact fun cls dx P2 H2 FE2 S2 t2 r => q cls dx P2 H2 FE2 S2 (t1.less'.trans t2) r
        | stk => simp only [e2] at q
    | _ => simp only at q
  | exc x ρ1 => simp only [e, R.bind] at q; exact q
  | stk => simp only [e, R.bind] at q
theorem de_not {f : Ev → R D} (h : DE X RX W a f) : DE X RX W (.UnaryOp .Not a pos) (fNotD f) := by
  refine pe_imp (pe_not h) fun σ H Q q => ?_
  obtain ⟨P, ρ, FE, S, q⟩ := q
  refine ⟨P, ρ, FE, S, ?_⟩
  unfold fNotD at q
  cases e : f ρ with
  | ok d ρ1 =>
    simp only [e, R.bind] at q
    intro v P1 H1 FE1 F1 S1 T1 t1
    cases d with
    | bl c => exact ⟨c, rl_bl T1.rl, q _ P1 H1 FE1 E_ S1 ⟨.bl, fun b z => z.elim⟩ (t1.less'.less fun b z => z.elim id False.elim)⟩
    | _ => simp only at q
  | exc x ρ1 => simp only [e, R.bind] at q; exact q
  | stk => simp only [e, R.bind] at q
end
end Hap
namespace Hap
open PySem PySem.Spec PyProof.Rows L2
variable [TabC]
def gI2 (f : Int → Int → Int) (d e : D) : Option D := match d, e with
  | .int i, .int j => some (.int (f i j))
  | _, _ => none
def gC2 (C : Int → Int → Prop) [∀ i j, Decidable (C i j)] (f : Int → Int → Int) (d e : D) : Option D := match d, e with
  | .int i, .int j => if C i j then some (.int (f i j)) else none
  | _, _ => none
def CDivX (_ j : Int) : Prop := j ≠ 0 ∧ j.natAbs < 18446744073709551616
instance (i j : Int) : Decidable (CDivX i j) := by unfold CDivX; infer_instance
omit [TabC] in
theorem op_fdivX {X : Cx} : OpR X (binaryOp .FloorDiv) (rI CDivX fun i j => .int (i.fdiv j)) := opI fun _ j _ _ _ _ _ hc q => by
  have h : j.natAbs.log2 < 9000 := Nat.lt_of_lt_of_le (PySem.Flt.log2_lt_of (k := 64) (by decide) hc.2) (by decide)
  exact floordiv_int hc.1 q (.inl (PyProof.noPylong_of_log2 h))
instance (i j : Int) : Decidable (CPow i j) := by unfold CPow; infer_instance
instance (i j : Int) : Decidable (CMul i j) := by unfold CMul; infer_instance
section
variable {K : PySem.W.Frag}
theorem vI2 {f : Int → Int → Int} : VOp2 K (rI0 fun i j => .int (f i j)) (gI2 f) := by
  intro P H d e v w x Q pin r1 r2 g h
  cases r1 <;> cases r2 <;> cases g
  exact ⟨_, _, rfl, rfl, h _ P H E_ New.refl .int⟩
theorem vC2 {C : Int → Int → Prop} [∀ i j, Decidable (C i j)] {f : Int → Int → Int} : VOp2 K (rI C fun i j => .int (f i j)) (gC2 C f) := by
  intro P H d e v w x Q pin r1 r2 g h
  cases r1 <;> cases r2 <;> simp only [gC2] at g <;> try cases g
  rename_i i j
  by_cases c : C i j
  · rw [if_pos c] at g; cases g
    exact ⟨_, _, rfl, rfl, c, h _ P H E_ New.refl .int⟩
  · rw [if_neg c] at g; cases g
def gU1 (f : Int → Int) (d : D) : Option D := match d with
  | .int i => some (.int (f i))
  | _ => none
theorem vU1 {f : Int → Int} : VOp1 K (rU fun i => .int (f i)) (gU1 f) := by
  intro P H d v x Q pin r1 g h
  cases r1 <;> cases g
  exact ⟨_, rfl, h _ P H E_ New.refl .int⟩
omit [TabC] in
/-- the lists' items, none of one's own -/
theorem lst_read {z : Bool} {P : AS} {H : Hp} {o : Bool} {ds : List D} {v : V} {F : AS} (r : Rl z K P H (.lst o ds) v F) : ∃ p vs, v = .ref p ∧ H p = some (.lst vs) ∧ Rls false K P H ds vs E_ := by
  cases r with
  | lstO e f s rs => exact ⟨_, _, rfl, e, rls_view rs⟩
  | lstI e p i rs => exact ⟨_, _, rfl, e, rls_view rs⟩
theorem new_lst {P : AS} {H : Hp} {p : Addr} {ds : List D} {vs : List V} (hp : H p = none) (pin : ∀ b, P b → H b ≠ none) (i : isImms ds = true) (rs : Rls false K P H ds vs E_) :
    New P H P (upd H p (.lst vs)) (fun b => b = p) ∧ Rl true K P (upd H p (.lst vs)) (.lst true ds) (.ref p) (fun b => b = p) :=
  ⟨New.lst hp pin, .lstO (F' := E_) upd_same (fun _ => rfl) (fun b z => z.elim) (rls_mono (z := true) (F := E_) (rls_imm rs i) (fun _ q => q) (fun b o e _ _ => by rw [upd_ne (ne_of_none e hp)]; exact e) fun _ z => z)⟩
omit [TabC] in
theorem rls_app {z : Bool} {P : AS} {H : Hp} {es : List D} {ws : List V} : ∀ {ds : List D} {vs : List V}, Rls z K P H ds vs E_ → Rls z K P H es ws E_ → Rls z K P H (ds ++ es) (vs ++ ws) E_
  | _, _, .nil, r => r
  | _, _, .cons a b s1 s2 dj, r => .cons (F1 := E_) (F2 := E_) (rl_mono a (fun _ q => q) (fun _ _ e _ _ => e) s1) (rls_app (rls_mono b (fun _ q => q) (fun _ _ e _ _ => e) s2) r) (fun _ q => q) (fun _ q => q) fun _ q => q.elim
omit [TabC] in
theorem isImms_app : ∀ {ds es : List D}, isImms ds = true → isImms es = true → isImms (ds ++ es) = true
  | [], _, _, h => h
  | _ :: _, _, h, k => by
    simp only [isImms, Bool.and_eq_true, List.cons_append] at h ⊢
    exact ⟨h.1, isImms_app h.2 k⟩
def gAdd (d e : D) : Option D := match d, e with
  | .int i, .int j => some (.int (i + j))
  | .str x, .str y => if x.length + y.length ≤ sizeLine then some (.str (x ++ y)) else none
  | .lst _ xs, .lst _ ys => if (isImms xs = true ∧ isImms ys = true) ∧ xs.length + ys.length ≤ sizeLine then some (.lst true (xs ++ ys)) else none
  | _, _ => none
abbrev rAddU : R2 := fun x y H Q => (∃ i j, x = .int i ∧ y = .int j ∧ Q (.int (i + j)) H) ∨ (∃ i j, x = .str i ∧ y = .str j ∧ i.length + j.length ≤ sizeLine ∧ Q (.str (i ++ j)) H) ∨ rCat x y H Q
omit [TabC] in
theorem op_addU {X : Cx} : OpR X (binaryOp .Add) rAddU := op_add.or (op_add_str.or op_cat)
theorem vAdd : VOp2 K rAddU gAdd := by
  intro P H d e v w x Q pin r1 r2 g h
  cases d <;> cases e <;> simp only [gAdd] at g <;> try (cases g; done)
  · cases g
    rw [rl_int r1, rl_int r2]
    exact .inl ⟨_, _, rfl, rfl, h _ P H E_ New.refl .int⟩
  · rename_i i j
    by_cases c : i.length + j.length ≤ sizeLine
    · rw [if_pos c] at g; cases g
      rw [rl_str r1, rl_str r2]
      exact .inr (.inl ⟨_, _, rfl, rfl, c, h _ P H E_ New.refl .str⟩)
    · rw [if_neg c] at g; cases g
  · rename_i o xs o' ys
    by_cases c : (isImms xs = true ∧ isImms ys = true) ∧ xs.length + ys.length ≤ sizeLine
    · rw [if_pos c] at g; cases g
      obtain ⟨p, vs, rfl, e1, rs1⟩ := lst_read r1
      obtain ⟨q, ws, rfl, e2, rs2⟩ := lst_read r2
      refine .inr (.inr ⟨p, q, vs, ws, rfl, rfl, e1, e2, by rw [← rls_len rs1, ← rls_len rs2]; exact c.2, fun a ha => ?_⟩)
      obtain ⟨n, r⟩ := new_lst ha pin (isImms_app c.1.1 c.1.2) (rls_app rs1 rs2)
      exact h _ _ _ _ n r
    · rw [if_neg c] at g; cases g
def gSub := gI2 fun i j => i - j
def gMul := gC2 CMul fun i j => i * j
def gFdiv := gC2 CDivX Int.fdiv
def gMod := gC2 (fun _ j => j ≠ 0) Int.fmod
def gPow := gC2 CPow fun i j => i ^ j.toNat
def gShl := gC2 CPow fun i j => i * 2 ^ j.toNat
def gShr := gC2 (fun _ j => 0 ≤ j) fun i j => i / 2 ^ j.toNat
def gBand := gI2 Builtin.bitAnd
def gBor := gI2 Builtin.bitOr
theorem vSub : VOp2 K (rI0 fun i j => .int (i - j)) gSub := vI2
theorem vMul : VOp2 K (rI CMul fun i j => .int (i * j)) gMul := vC2
theorem vFdiv : VOp2 K (rI CDivX fun i j => .int (i.fdiv j)) gFdiv := vC2
theorem vMod : VOp2 K (rI (fun _ j => j ≠ 0) fun i j => .int (i.fmod j)) gMod := vC2
theorem vPow : VOp2 K (rI CPow fun i j => .int (i ^ j.toNat)) gPow := vC2
theorem vShl : VOp2 K (rI CPow fun i j => .int (i * 2 ^ j.toNat)) gShl := vC2
theorem vShr : VOp2 K (rI (fun _ j => 0 ≤ j) fun i j => .int (i / 2 ^ j.toNat)) gShr := vC2
theorem vBand : VOp2 K (rI0 fun i j => .int (Builtin.bitAnd i j)) gBand := vI2
theorem vBor : VOp2 K (rI0 fun i j => .int (Builtin.bitOr i j)) gBor := vI2
def gNeg := gU1 fun i => -i
def gInv := gU1 Builtin.bitNot
theorem vNeg : VOp1 K (rU fun i => .int (-i)) gNeg := vU1
theorem vInv : VOp1 K (rU fun i => .int (Builtin.bitNot i)) gInv := vU1
def gCmp (p : Int → Int → Bool) (q : List Nat → List Nat → Bool) (d e : D) : Option D := match d, e with
  | .int i, .int j => some (.bl (p i j))
  | .str x, .str y => some (.bl (q x.cps.toList y.cps.toList))
  | _, _ => none
abbrev rCmp (p : Int → Int → Bool) (q : List Nat → List Nat → Bool) : R2 := fun x y H Q => (∃ i j, x = .int i ∧ y = .int j ∧ Q (.bl (p i j)) H) ∨ (∃ i j, x = .str i ∧ y = .str j ∧ Q (.bl (q i.cps.toList j.cps.toList)) H)
theorem vCmp {p : Int → Int → Bool} {q : List Nat → List Nat → Bool} : VOp2 K (rCmp p q) (gCmp p q) := by
  intro P H d e v w x Q pin r1 r2 g h
  cases d <;> cases e <;> simp only [gCmp] at g <;> try (cases g; done)
  · cases g
    rw [rl_int r1, rl_int r2]
    exact .inl ⟨_, _, rfl, rfl, h _ P H E_ New.refl .bl⟩
  · cases g
    rw [rl_str r1, rl_str r2]
    exact .inr ⟨_, _, rfl, rfl, h _ P H E_ New.refl .bl⟩
def gLt := gCmp (fun i j => decide (i < j)) fun x y => decide (x < y)
def gLe := gCmp (fun i j => decide (i ≤ j)) fun x y => !decide (y < x)
def gGt := gCmp (fun i j => decide (j < i)) fun x y => decide (y < x)
def gGe := gCmp (fun i j => decide (j ≤ i)) fun x y => !decide (x < y)
omit [TabC] in
theorem op_ltU {X : Cx} : OpR X (compareOp .Lt) (rCmp (fun i j => decide (i < j)) fun x y => decide (x < y)) := op_lt.or op_lt_str
omit [TabC] in
theorem op_leU {X : Cx} : OpR X (compareOp .LtE) (rCmp (fun i j => decide (i ≤ j)) fun x y => !decide (y < x)) := op_le.or op_le_str
omit [TabC] in
theorem op_gtU {X : Cx} : OpR X (compareOp .Gt) (rCmp (fun i j => decide (j < i)) fun x y => decide (y < x)) := op_gt.or op_gt_str
omit [TabC] in
theorem op_geU {X : Cx} : OpR X (compareOp .GtE) (rCmp (fun i j => decide (j ≤ i)) fun x y => !decide (x < y)) := op_ge.or op_ge_str
theorem vLt : VOp2 K (rCmp (fun i j => decide (i < j)) fun x y => decide (x < y)) gLt := vCmp
theorem vLe : VOp2 K (rCmp (fun i j => decide (i ≤ j)) fun x y => !decide (y < x)) gLe := vCmp
theorem vGt : VOp2 K (rCmp (fun i j => decide (j < i)) fun x y => decide (y < x)) gGt := vCmp
theorem vGe : VOp2 K (rCmp (fun i j => decide (j ≤ i)) fun x y => !decide (x < y)) gGe := vCmp
mutual
def toPy : D → PyData
  | .non => .none
  | .bl b => .bool b
  | .int i => .int i
  | .str x => .str x
  | .lst _ xs => .list (toPys xs)
  | .rol xs => .list (toPys xs)
  | .tup xs => .tuple (toPys xs)
  | .dct _ _ _ => .dict []
  | .dcT _ _ _ => .dict []
  | .gv _ => .dict []
  | .obj _ _ _ _ => .dict []
def toPys : List D → List PyData
  | [] => []
  | d :: ds => toPy d :: toPys ds
end
omit [TabC] in
mutual
theorem dp_of {P : AS} {H : Hp} {z : Bool} {d : D} {v : V} {F : AS} (h : Rl z K P H d v F) (s : (toPy d).canLay0 = true) : Dp K H v (toPy d) := by
  cases h with
  | non => exact .non
  | bl => exact .bl _
  | int => exact .int _
  | str => exact .str _
  | lstO e f s' r => exact .lst (.inl (.inl e)) (dps_of r (by simpa only [toPy, PyData.canLay0] using s))
  | lstI e p i r => exact .lst (.inl (.inl e)) (dps_of r (by simpa only [toPy, PyData.canLay0] using s))
  | tup e p r => exact .tup (.inl (.inl e)) (dps_of r (by simpa only [toPy, PyData.canLay0] using s))
  | rol e i r => exact .lst (rol_sql e) (dps_of r (by simpa only [toPy, PyData.canLay0] using s))
  | dctO => simp [toPy, PyData.canLay0] at s
  | dctI => simp [toPy, PyData.canLay0] at s
  | dcTO => simp [toPy, PyData.canLay0] at s
  | dcTI => simp [toPy, PyData.canLay0] at s
  | gv => simp [toPy, PyData.canLay0] at s
  | objO => simp [toPy, PyData.canLay0] at s
  | objI => simp [toPy, PyData.canLay0] at s
theorem dps_of {P : AS} {H : Hp} {z : Bool} {ds : List D} {vs : List V} {F : AS} (h : Rls z K P H ds vs F) (s : PyData.canLayAll0 (toPys ds) = true) : DpAll K H vs (toPys ds) := by
  cases h with
  | nil => exact .nil
  | cons r rs _ _ _ =>
    simp only [toPys, PyData.canLayAll0, Bool.and_eq_true] at s
    exact .cons (dp_of r s.1) (dps_of rs s.2)
end
def gEq (d e : D) : Option D := match d, e with
  | .int i, .int j => some (.bl (decide (i = j)))
  | .bl i, .bl j => some (.bl (decide (i = j)))
  | .str i, .str j => some (.bl (decide (i = j)))
  | _, _ => if SeqAt.shaped (toPy d) = true ∧ SeqAt.shaped (toPy e) = true then some (.bl (PyData.eqv (toPy d) (toPy e))) else none
def gNe (d e : D) : Option D := match gEq d e with
  | some (.bl b) => some (.bl (!b))
  | _ => none
abbrev rEqU (K : PySem.W.Frag) : R2 := fun x y H Q => rEq x y H Q ∨ rEqD K x y H Q
abbrev rNeU (K : PySem.W.Frag) : R2 := fun x y H Q => rNe x y H Q ∨ rNeD K x y H Q
omit [TabC] in
theorem op_eqU {X : Cx} (hu : X.A.units + 64 < cLine) : OpR X (compareOp .Eq) (rEqU X.K) := op_eq.or (op_eqD hu)
omit [TabC] in
theorem op_neU {X : Cx} (hu : X.A.units + 64 < cLine) : OpR X (compareOp .NotEq) (rNeU X.K) := op_ne.or (op_neD hu)
omit [TabC] in
theorem shaped_lay {d : PyData} (h : SeqAt.shaped d = true) : d.canLay0 = true := SeqAt.canLay_of_shaped h
omit [TabC] in
/-- == by cases: two scalars of one kind, or data -/
theorem gEq_cases {d e x : D} (g : gEq d e = some x) : (∃ i j, d = .int i ∧ e = .int j ∧ x = .bl (decide (i = j))) ∨ (∃ i j, d = .bl i ∧ e = .bl j ∧ x = .bl (decide (i = j))) ∨ (∃ i j, d = .str i ∧ e = .str j ∧ x = .bl (decide (i = j))) ∨
    (SeqAt.shaped (toPy d) = true ∧ SeqAt.shaped (toPy e) = true ∧ x = .bl (PyData.eqv (toPy d) (toPy e))) := by
  unfold gEq at g
  split at g
  · cases g; exact .inl ⟨_, _, rfl, rfl, rfl⟩
  · cases g; exact .inr (.inl ⟨_, _, rfl, rfl, rfl⟩)
  · cases g; exact .inr (.inr (.inl ⟨_, _, rfl, rfl, rfl⟩))
  · by_cases c : SeqAt.shaped (toPy d) = true ∧ SeqAt.shaped (toPy e) = true
    · rw [if_pos c] at g; cases g
      exact .inr (.inr (.inr ⟨c.1, c.2, rfl⟩))
    · rw [if_neg c] at g; cases g
theorem vEq : VOp2 K (rEqU K) gEq := by
  intro P H d e v w x Q pin r1 r2 g h
  rcases gEq_cases g with ⟨i, j, rfl, rfl, rfl⟩ | ⟨i, j, rfl, rfl, rfl⟩ | ⟨i, j, rfl, rfl, rfl⟩ | ⟨s1, s2, rfl⟩
  · rw [rl_int r1, rl_int r2]
    refine .inl ⟨rfl, ?_⟩
    rw [show decide (V.int i = V.int j) = decide (i = j) from by simp]
    exact h _ P H E_ New.refl .bl
  · rw [rl_bl r1, rl_bl r2]
    refine .inl ⟨rfl, ?_⟩
    rw [show decide (V.bl i = V.bl j) = decide (i = j) from by simp]
    exact h _ P H E_ New.refl .bl
  · rw [rl_str r1, rl_str r2]
    refine .inl ⟨rfl, ?_⟩
    rw [show decide (V.str i = V.str j) = decide (i = j) from by simp]
    exact h _ P H E_ New.refl .bl
  · exact .inr ⟨_, _, dp_of r1 (shaped_lay s1), dp_of r2 (shaped_lay s2), s1, s2, h _ P H E_ New.refl .bl⟩
theorem vNe : VOp2 K (rNeU K) gNe := by
  intro P H d e v w x Q pin r1 r2 g h
  unfold gNe at g
  split at g
  · rename_i b gb
    cases g
    rcases gEq_cases gb with ⟨i, j, rfl, rfl, q⟩ | ⟨i, j, rfl, rfl, q⟩ | ⟨i, j, rfl, rfl, q⟩ | ⟨s1, s2, q⟩
    · cases q
      rw [rl_int r1, rl_int r2]
      refine .inl ⟨rfl, ?_⟩
      rw [show decide (V.int i = V.int j) = decide (i = j) from by simp]
      exact h _ P H E_ New.refl .bl
    · cases q
      rw [rl_bl r1, rl_bl r2]
      refine .inl ⟨rfl, ?_⟩
      rw [show decide (V.bl i = V.bl j) = decide (i = j) from by simp]
      exact h _ P H E_ New.refl .bl
    · cases q
      rw [rl_str r1, rl_str r2]
      refine .inl ⟨rfl, ?_⟩
      rw [show decide (V.str i = V.str j) = decide (i = j) from by simp]
      exact h _ P H E_ New.refl .bl
    · cases q
      exact .inr ⟨_, _, dp_of r1 (shaped_lay s1), dp_of r2 (shaped_lay s2), s1, s2, h _ P H E_ New.refl .bl⟩
  · cases g
end
end Hap
namespace Hap
open PySem PySem.Spec PyProof.Rows L2
variable [TabC]
section
variable {κ : Type} [DecidableEq κ]
def memK (k : κ) (ks : List κ) : Bool := decide (k ∈ ks)
def getK : List κ → List D → κ → Option D
  | k' :: ks, d :: ds, k => if k' = k then some d else getK ks ds k
  | _, _, _ => none
def replK : List κ → List D → κ → D → List D
  | k' :: ks, x :: xs, k, d => (if k' = k then d else x) :: replK ks xs k d
  | _, _, _, _ => []
/-- in its place, or at the end -/
def putKs (ks : List κ) (xs : List D) (k : κ) (d : D) : List κ × List D := if k ∈ ks then (ks, replK ks xs k d) else (ks ++ [k], xs ++ [d])
variable {K : PySem.W.Frag} {P : AS} {H : Hp} {z : Bool}
omit [TabC] in
theorem getK_some : ∀ {ks : List κ} {ds : List D} {vs : List V} {F : AS} {k : κ} {d : D}, Rls z K P H ds vs F → ks.length = vs.length → getK ks ds k = some d → ∃ v, valV (ks.zip vs) k = some v ∧ Rl z K P H d v F
  | [], _, _, _, _, _, _, _, e => by simp [getK] at e
  | _ :: _, _, _, _, _, _, .nil, l, _ => by simp at l
  | k' :: ks, _, _, F, k, d, .cons (v := v) r rs s1 s2 _, l, e => by
    simp only [getK] at e
    by_cases h : k' = k
    · rw [if_pos h] at e; cases e
      exact ⟨v, valV_pos (p := (k', v)) h, rl_mono r (fun _ q => q) (fun _ _ e _ _ => e) s1⟩
    · rw [if_neg h] at e
      obtain ⟨w, h1, h2⟩ := getK_some rs (by simpa using l) e
      exact ⟨w, (valV_neg (p := (k', v)) h).trans h1, rl_mono h2 (fun _ q => q) (fun _ _ e _ _ => e) s2⟩
omit [TabC] in
theorem getK_none : ∀ {ks : List κ} {ds : List D} {vs : List V} {F : AS} {k : κ}, Rls z K P H ds vs F → ks.length = vs.length → getK ks ds k = none → valV (ks.zip vs) k = none
  | [], _, _, _, _, _, _, _ => rfl
  | _ :: _, _, _, _, _, .nil, l, _ => by simp at l
  | k' :: ks, _, _, F, k, .cons (v := v) r rs s1 s2 _, l, e => by
    simp only [getK] at e
    by_cases h : k' = k
    · rw [if_pos h] at e; cases e
    · rw [if_neg h] at e
      exact (valV_neg (p := (k', v)) h).trans (getK_none rs (by simpa using l) e)
omit [TabC] in
theorem getK_mem : ∀ {ks : List κ} {ds : List D} {k : κ}, ks.length = ds.length → (getK ks ds k).isSome = decide (k ∈ ks)
  | [], _, _, _ => by simp [getK]
  | _ :: _, [], _, l => by simp at l
  | k' :: ks, d :: ds, k, l => by
    simp only [getK]
    by_cases h : k' = k
    · rw [if_pos h]; simp [h]
    · rw [if_neg h, getK_mem (ks := ks) (ds := ds) (k := k) (by simpa using l)]
      have h' : ¬ k = k' := fun e => h e.symm
      simp [h']
theorem valV_isSome {ks : List κ} {ds : List D} {vs : List V} {F : AS} {k : κ} (r : Rls z K P H ds vs F) (l : ks.length = vs.length) : (valV (ks.zip vs) k).isSome = decide (k ∈ ks) := by
  rw [← getK_mem (ds := ds) (by rw [l, rls_len r])]
  cases e : getK ks ds k with
  | none => rw [getK_none r l e]; rfl
  | some d => obtain ⟨v, h, _⟩ := getK_some r l e; rw [h]; rfl
omit [TabC] in
theorem zip_any {k : κ} : ∀ {ks : List κ} {vs : List V}, ks.length = vs.length → ((ks.zip vs).any fun kv => decide (kv.1 = k)) = decide (k ∈ ks)
  | [], _, _ => by simp
  | _ :: _, [], l => by simp at l
  | k' :: ks, v :: vs, l => by
    rw [List.zip_cons_cons, List.any_cons, zip_any (by simpa using l)]
    by_cases h : k' = k
    · simp [h]
    · have h' : ¬ k = k' := fun e => h e.symm
      simp [h, h']
/-- the values behind a store -/
def replV : List κ → List V → κ → V → List V
  | k' :: ks, x :: xs, k, d => (if k' = k then d else x) :: replV ks xs k d
  | _, _, _, _ => []
omit [TabC] in
theorem repl_zip {k : κ} {v : V} : ∀ {ks : List κ} {vs : List V}, (ks.zip vs).map (fun kv => if kv.1 = k then (kv.1, v) else kv) = ks.zip (replV ks vs k v)
  | [], _ => rfl
  | _ :: _, [] => rfl
  | k' :: ks, w :: vs => by
    rw [List.zip_cons_cons, List.map_cons, repl_zip]
    simp only [replV, List.zip_cons_cons]
    congr 1
    by_cases h : k' = k
    · simp [h]
    · simp [h]
omit [TabC] in
theorem replV_len {k : κ} {v : V} : ∀ {ks : List κ} {vs : List V}, ks.length = vs.length → (replV ks vs k v).length = vs.length
  | [], [], _ => rfl
  | [], _ :: _, l => by simp at l
  | _ :: _, [], l => by simp at l
  | _ :: ks, _ :: vs, l => congrArg (· + 1) (replV_len (ks := ks) (vs := vs) (by simpa using l))
omit [TabC] in
theorem repl_rls {k : κ} {d : D} {v : V} : ∀ {ks : List κ} {ds : List D} {vs : List V} {F1 : AS}, Rls z K P H ds vs F1 → isImm d = true → Rl z K P H d v E_ → ks.length = vs.length → Rls z K P H (replK ks ds k d) (replV ks vs k v) F1
  | [], _, _, _, .nil, _, _, _ => .nil
  | [], _, _, _, .cons .., _, _, l => by simp at l
  | _ :: _, _, _, _, .nil, _, _, l => by simp at l
  | k' :: ks, _, _, F, .cons (F1 := G1) (F2 := G2) r rs s1 s2 dj, i, q, l => by
    simp only [replK, replV]
    refine .cons (F1 := G1) (F2 := G2) ?_ (repl_rls rs i q (by simpa using l)) s1 s2 dj
    by_cases h : k' = k
    · rw [if_pos h, if_pos h]; exact rl_imm q i
    · rw [if_neg h, if_neg h]; exact r
/-- d[k] = v, the value given up -/
theorem put_ok {k : κ} {d : D} {v : V} {ks : List κ} {ds : List D} {vs : List V} {F1 : AS} (r : Rls z K P H ds vs F1) (i : isImm d = true) (q : Rl z K P H d v E_) (l : ks.length = vs.length) :
    ∃ vs', putK (ks.zip vs) k v = (putKs ks ds k d).1.zip vs' ∧ (putKs ks ds k d).1.length = vs'.length ∧ Rls z K P H (putKs ks ds k d).2 vs' F1 := by
  unfold putK putKs
  rw [zip_any l]
  by_cases h : k ∈ ks
  · rw [if_pos (decide_eq_true h), if_pos h]
    exact ⟨replV ks vs k v, repl_zip, (replV_len l ▸ l), repl_rls r i q l⟩
  · rw [if_neg (by simpa using h), if_neg h]
    refine ⟨vs ++ [v], ?_, by simpa using l, ?_⟩
    · rw [List.zip_append l]; rfl
    · exact rls_snoc (F1 := F1) (F2 := E_) r q (fun _ z => z) (fun _ z => z.elim) fun _ _ z => z
end
def keyOf (d : D) : Option Key := match d with
  | .int i => some (.inl i)
  | .str x => some (.inr x)
  | _ => none
def keysOf : List D → Option (List Key)
  | [] => some []
  | d :: ds => match keyOf d, keysOf ds with
    | some k, some ks => some (k :: ks)
    | _, _ => none
omit [TabC] in
theorem keyOf_rl {K : PySem.W.Frag} {P : AS} {H : Hp} {z : Bool} {d : D} {v : V} {F : AS} {k : Key} (r : Rl z K P H d v F) (h : keyOf d = some k) : v = kV k := by
  cases r <;> cases h <;> rfl
theorem keysOf_rls {K : PySem.W.Frag} {P : AS} {H : Hp} {z : Bool} : ∀ {ds : List D} {vs : List V} {F : AS} {ks : List Key}, Rls z K P H ds vs F → keysOf ds = some ks → vs = ks.map kV
  | _, _, _, _, .nil, h => by cases h; rfl
  | _, _, _, _, .cons (d := d) (ds := ds) r rs _ _ _, h => by
    simp only [keysOf] at h
    cases e1 : keyOf d with
    | none => simp [e1] at h
    | some k =>
      cases e2 : keysOf ds with
      | none => simp [e1, e2] at h
      | some ks =>
        simp only [e1, e2] at h; cases h
        rw [keyOf_rl r e1, keysOf_rls rs e2]; rfl
def flatD (d : D) : Bool := match d with
  | .non => true
  | .bl _ => true
  | .int _ => true
  | .str _ => true
  | _ => false
def toV (d : D) : V := match d with
  | .bl b => .bl b
  | .int i => .int i
  | .str x => .str x
  | _ => .non
omit [TabC] in
theorem flat_rl {K : PySem.W.Frag} {P : AS} {H : Hp} {z : Bool} {d : D} {v : V} {F : AS} (r : Rl z K P H d v F) (h : flatD d = true) : v = toV d ∧ flatV v = true := by
  cases r <;> first | exact ⟨rfl, rfl⟩ | cases h
theorem flats_rls {K : PySem.W.Frag} {P : AS} {H : Hp} {z : Bool} : ∀ {ds : List D} {vs : List V} {F : AS}, Rls z K P H ds vs F → ds.all flatD = true → vs = ds.map toV ∧ vs.all flatV = true
  | _, _, _, .nil, _ => ⟨rfl, rfl⟩
  | _, _, _, .cons r rs _ _ _, h => by
    simp only [List.all_cons, Bool.and_eq_true] at h
    obtain ⟨h1, h2⟩ := flat_rl r h.1
    obtain ⟨h3, h4⟩ := flats_rls rs h.2
    refine ⟨by rw [h1, h3]; rfl, by rw [List.all_cons, h2, h4]; rfl⟩
def gInB (d e : D) : Option Bool := match e with
  | .str z => (match d with
    | .str x => (match x.cps.toList with
      | [c] => some (decide (c ∈ z.cps.toList))
      | _ => none)
    | _ => none)
  | .lst _ xs => if SeqAt.shaped (toPy d) = true ∧ SeqAt.shaped (.list (toPys xs)) = true then some ((toPys xs).any fun z => PyData.eqv z (toPy d)) else none
  | .rol xs => if SeqAt.shaped (toPy d) = true ∧ SeqAt.shaped (.list (toPys xs)) = true then some ((toPys xs).any fun z => PyData.eqv z (toPy d)) else none
  | .tup xs => if flatD d = true ∧ xs.all flatD = true then some (inV (toV d) (xs.map toV)) else none
  | .dct _ ks _ => (keyOf d).map fun k => memK k ks
  | .dcT _ ks _ => (match d with
    | .tup ds => (keysOf ds).map fun k => memK k ks
    | _ => none)
  | _ => none
def gIn (d e : D) : Option D := (gInB d e).map .bl
def gNin (d e : D) : Option D := (gInB d e).map fun b => .bl (!b)
abbrev rDIn (neg : Bool) : R2 := fun y x H Q => ∃ a o, x = .ref a ∧ DGet H a y o ∧ Q (.bl (if neg = true then !o.isSome else o.isSome)) H
abbrev rInU (K : PySem.W.Frag) : R2 := fun x y H Q => (∃ (c : Nat) (z : Str), x = .str ⟨#[c]⟩ ∧ y = .str z ∧ Q (.bl (decide (c ∈ z.cps.toList))) H) ∨ rInD K x y H Q ∨ rIn K false x y H Q ∨ rDIn false x y H Q
abbrev rNinU (K : PySem.W.Frag) : R2 := fun x y H Q => (∃ (c : Nat) (z : Str), x = .str ⟨#[c]⟩ ∧ y = .str z ∧ Q (.bl (!decide (c ∈ z.cps.toList))) H) ∨ rNotInD K x y H Q ∨ rIn K true x y H Q ∨ rDIn true x y H Q
omit [TabC] in
theorem op_dIn {X : Cx} (hu : X.A.units + 1 < cLine) : OpR X (compareOp .In) (rDIn false) := by
  intro pins s σ H x y v u Q I rx ry h
  obtain ⟨a, o, rfl, g, q⟩ := h
  cases ry
  exact d_in hu I g rx fun s3 I3 => ⟨.bl o.isSome, H, I3, rfl, by simpa using q⟩
omit [TabC] in
theorem op_dNin {X : Cx} (hu : X.A.units + 1 < cLine) : OpR X (compareOp .NotIn) (rDIn true) := by
  intro pins s σ H x y v u Q I rx ry h
  obtain ⟨a, o, rfl, g, q⟩ := h
  cases ry
  exact d_notIn hu I g rx fun s3 I3 => ⟨.bl (!o.isSome), H, I3, rfl, by simpa using q⟩
theorem op_inU {X : Cx} (hu : X.A.units + 65 < cLine) : OpR X (compareOp .In) (rInU X.K) := op_in_sign.or ((op_inD hu).or (op_in_seq.or (op_dIn (by omega))))
theorem op_ninU {X : Cx} (hu : X.A.units + 65 < cLine) : OpR X (compareOp .NotIn) (rNinU X.K) := op_notIn_sign.or ((op_notInD hu).or (op_notIn_seq.or (op_dNin (by omega))))
section
variable {K : PySem.W.Frag}
omit [TabC] in
theorem str_one {x : Str} {c : Nat} (h : x.cps.toList = [c]) : x = ⟨#[c]⟩ := by
  obtain ⟨a⟩ := x
  have : a = #[c] := by
    apply Array.ext'
    simpa using h
  rw [this]
/-- what stands behind «in» -/
theorem inB_cases {P : AS} {H : Hp} {d e : D} {v w : V} {b : Bool} (r1 : Rl false K P H d v E_) (r2 : Rl false K P H e w E_) (g : gInB d e = some b) :
    (∃ (c : Nat) (z : Str), v = .str ⟨#[c]⟩ ∧ w = .str z ∧ b = decide (c ∈ z.cps.toList)) ∨
    (∃ d' ds, Dp K H v d' ∧ Dp K H w (.list ds) ∧ SeqAt.shaped d' = true ∧ SeqAt.shaped (.list ds) = true ∧ b = ds.any fun z => PyData.eqv z d') ∨
    (∃ p xs, w = .ref p ∧ (SqL K H p xs ∨ SqT K H p xs) ∧ flatV v = true ∧ xs.all flatV = true ∧ b = inV v xs) ∨ ∃ a o, w = .ref a ∧ DGet H a v o ∧ b = o.isSome := by
  cases r2 with
  | str =>
    simp only [gInB] at g
    cases r1 with
    | str =>
      simp only at g
      split at g
      · rename_i c e
        cases g
        rw [str_one e]
        exact .inl ⟨_, _, rfl, rfl, rfl⟩
      · cases g
    | _ => simp at g
  | lstO e f s r =>
    simp only [gInB] at g
    split at g
    · rename_i c
      cases g
      exact .inr (.inl ⟨_, _, dp_of r1 (shaped_lay c.1), .lst (.inl (.inl e)) (dps_of r (by simpa only [PyData.canLay0] using shaped_lay c.2)), c.1, c.2, rfl⟩)
    · cases g
  | lstI e p i r =>
    simp only [gInB] at g
    split at g
    · rename_i c
      cases g
      exact .inr (.inl ⟨_, _, dp_of r1 (shaped_lay c.1), .lst (.inl (.inl e)) (dps_of r (by simpa only [PyData.canLay0] using shaped_lay c.2)), c.1, c.2, rfl⟩)
    · cases g
  | rol e i r =>
    simp only [gInB] at g
    split at g
    · rename_i c
      cases g
      exact .inr (.inl ⟨_, _, dp_of r1 (shaped_lay c.1), .lst (rol_sql e) (dps_of r (by simpa only [PyData.canLay0] using shaped_lay c.2)), c.1, c.2, rfl⟩)
    · cases g
  | tup e p r =>
    simp only [gInB] at g
    split at g
    · rename_i c
      cases g
      obtain ⟨h1, h2⟩ := flat_rl r1 c.1
      obtain ⟨h3, h4⟩ := flats_rls r c.2
      exact .inr (.inr (.inl ⟨_, _, rfl, .inr (.inl (.inl e)), h2, h4, by rw [h1, h3]⟩))
    · cases g
  | dctO e k l f s r =>
    simp only [gInB] at g
    cases e2 : keyOf d with
    | none => rw [e2] at g; cases g
    | some kk =>
      rw [e2] at g; cases g
      subst k
      rw [keyOf_rl r1 e2]
      exact .inr (.inr (.inr ⟨_, _, rfl, DGet.k e, (valV_isSome r l).symm⟩))
  | dctI e k l p i r =>
    simp only [gInB] at g
    cases e2 : keyOf d with
    | none => rw [e2] at g; cases g
    | some kk =>
      rw [e2] at g; cases g
      subst k
      rw [keyOf_rl r1 e2]
      exact .inr (.inr (.inr ⟨_, _, rfl, DGet.kR e, (valV_isSome r l).symm⟩))
  | dcTO e k l f s r =>
    simp only [gInB] at g
    cases r1 with
    | @tup _ _ ds1 _ e1 p1 rs1 =>
      simp only at g
      cases e2 : keysOf ds1 with
      | none => rw [e2] at g; cases g
      | some kk =>
        rw [e2] at g; cases g
        subst k
        rw [keysOf_rls rs1 e2] at e1
        exact .inr (.inr (.inr ⟨_, _, rfl, DGet.t e e1, (valV_isSome r l).symm⟩))
    | _ => simp at g
  | dcTI e k l p i r =>
    simp only [gInB] at g
    cases r1 with
    | @tup _ _ ds1 _ e1 p1 rs1 =>
      simp only at g
      cases e2 : keysOf ds1 with
      | none => rw [e2] at g; cases g
      | some kk =>
        rw [e2] at g; cases g
        subst k
        rw [keysOf_rls rs1 e2] at e1
        exact .inr (.inr (.inr ⟨_, _, rfl, DGet.tR e e1, (valV_isSome r l).symm⟩))
    | _ => simp at g
  | _ => simp [gInB] at g
theorem vIn : VOp2 K (rInU K) gIn := by
  intro P H d e v w x Q pin r1 r2 g h
  unfold gIn at g
  cases gb : gInB d e with
  | none => rw [gb] at g; cases g
  | some b =>
    rw [gb] at g; cases g
    have h := h _ P H E_ New.refl .bl
    rcases inB_cases r1 r2 gb with ⟨c, z, rfl, rfl, rfl⟩ | ⟨d', ds, h1, h2, h3, h4, rfl⟩ | ⟨p, xs, rfl, h1, h2, h3, rfl⟩ | ⟨a, o, rfl, h1, rfl⟩
    · exact .inl ⟨c, z, rfl, rfl, h⟩
    · exact .inr (.inl ⟨d', ds, h1, h2, h3, h4, h⟩)
    · exact .inr (.inr (.inl ⟨p, xs, rfl, h1, h2, h3, h⟩))
    · exact .inr (.inr (.inr ⟨a, o, rfl, h1, by simpa using h⟩))
theorem vNin : VOp2 K (rNinU K) gNin := by
  intro P H d e v w x Q pin r1 r2 g h
  unfold gNin at g
  cases gb : gInB d e with
  | none => rw [gb] at g; cases g
  | some b =>
    rw [gb] at g; cases g
    have h := h _ P H E_ New.refl .bl
    rcases inB_cases r1 r2 gb with ⟨c, z, rfl, rfl, rfl⟩ | ⟨d', ds, h1, h2, h3, h4, rfl⟩ | ⟨p, xs, rfl, h1, h2, h3, rfl⟩ | ⟨a, o, rfl, h1, rfl⟩
    · exact .inl ⟨c, z, rfl, rfl, h⟩
    · exact .inr (.inl ⟨d', ds, h1, h2, h3, h4, h⟩)
    · exact .inr (.inr (.inl ⟨p, xs, rfl, h1, h2, h3, h⟩))
    · exact .inr (.inr (.inr ⟨a, o, rfl, h1, by simpa using h⟩))
end
end Hap
namespace Hap
open PySem PySem.Spec PyProof.Rows L2
variable [TabC]
section
variable {K : PySem.W.Frag}
def gLen (ds : List D) : Option D := match ds with
  | [.str x] => if x.length ≤ sizeLine then some (.int x.length) else none
  | [.lst _ xs] => some (.int xs.length)
  | [.rol xs] => some (.int xs.length)
  | [.tup xs] => some (.int xs.length)
  | [.dct _ ks _] => some (.int ks.length)
  | _ => none
abbrev rLenU (K : PySem.W.Frag) : List V → Hp → VK → Prop := fun xs H Q => (∃ x n, xs = [x] ∧ LenV K x H n ∧ Q (.int n) H) ∨ (∃ a kvs, xs = [V.ref a] ∧ Rd H a (.dK kvs) ∧ Q (.int kvs.length) H)
omit [TabC] in
theorem call_lenDR {X : Cx} : CallR X (.builtin "len") (fun xs H Q => ∃ a kvs, xs = [V.ref a] ∧ Rd H a (.dK kvs) ∧ Q (.int kvs.length) H) := by
  intro pins s σ H xs us Q I r h
  obtain ⟨a, kvs, rfl, ha, q⟩ := h
  obtain ⟨u, rfl, ru⟩ := vals1 r
  cases ru
  exact d_len I ha fun t s' I' => ⟨.int kvs.length, H, I', ⟨t, rfl⟩, q⟩
omit [TabC] in
theorem call_lenU {X : Cx} : CallR X (.builtin "len") (rLenU X.K) := call_len.or call_lenDR
omit [TabC] in
theorem rol_read {P : AS} {H : Hp} {ds : List D} {v : V} {z : Bool} {F : AS} (r : Rl z K P H (.rol ds) v F) : ∃ p vs, v = .ref p ∧ SqL K H p vs ∧ Rls false K P H ds vs E_ := by
  cases r with
  | rol e i rs => exact ⟨_, _, rfl, rol_sql e, rls_view rs⟩
omit [TabC] in
theorem tup_read {P : AS} {H : Hp} {ds : List D} {v : V} {z : Bool} {F : AS} (r : Rl z K P H (.tup ds) v F) : ∃ p vs, v = .ref p ∧ H p = some (.tup vs) ∧ P p ∧ Rls false K P H ds vs E_ := by
  cases r with
  | tup e p rs => exact ⟨_, _, rfl, e, p, rls_view rs⟩
omit [TabC] in
theorem dct_read {P : AS} {H : Hp} {o : Bool} {ks : List Key} {ds : List D} {v : V} {z : Bool} {F : AS} (r : Rl z K P H (.dct o ks ds) v F) : ∃ p vs, v = .ref p ∧ Rd H p (.dK (ks.zip vs)) ∧ ks.length = vs.length ∧ Rls false K P H ds vs E_ := by
  cases r with
  | dctO e k l f s rs => subst k; exact ⟨_, _, rfl, .inl e, l, rls_view rs⟩
  | dctI e k l p i rs => subst k; exact ⟨_, _, rfl, e, l, rls_view rs⟩
omit [TabC] in
theorem dcT_read {P : AS} {H : Hp} {o : Bool} {ks : List (List Key)} {ds : List D} {v : V} {z : Bool} {F : AS} (r : Rl z K P H (.dcT o ks ds) v F) : ∃ p vs, v = .ref p ∧ Rd H p (.dT (ks.zip vs)) ∧ ks.length = vs.length ∧ Rls false K P H ds vs E_ := by
  cases r with
  | dcTO e k l f s rs => subst k; exact ⟨_, _, rfl, .inl e, l, rls_view rs⟩
  | dcTI e k l p i rs => subst k; exact ⟨_, _, rfl, e, l, rls_view rs⟩
theorem vLen : VOpN K (rLenU K) gLen := by
  intro P H ds vs x Q pin rs g h
  unfold gLen at g
  split at g
  · obtain ⟨v, rfl, r⟩ := rls1 rs
    split at g
    · rename_i c
      cases g
      rw [rl_str r]
      exact .inl ⟨_, _, rfl, ⟨c, rfl⟩, h _ P H E_ New.refl .int⟩
    · cases g
  · obtain ⟨v, rfl, r⟩ := rls1 rs
    cases g
    obtain ⟨p, vs, rfl, e, r2⟩ := lst_read r
    refine .inl ⟨_, vs.length, rfl, .inl ⟨vs, .inl (.inl e), rfl⟩, ?_⟩
    rw [← rls_len r2]
    exact h _ P H E_ New.refl .int
  · obtain ⟨v, rfl, r⟩ := rls1 rs
    cases g
    obtain ⟨p, vs, rfl, e, r2⟩ := rol_read r
    refine .inl ⟨_, vs.length, rfl, .inl ⟨vs, e, rfl⟩, ?_⟩
    rw [← rls_len r2]
    exact h _ P H E_ New.refl .int
  · obtain ⟨v, rfl, r⟩ := rls1 rs
    cases g
    obtain ⟨p, vs, rfl, e, _, r2⟩ := tup_read r
    refine .inl ⟨_, vs.length, rfl, .inr ⟨vs, .inl (.inl e), rfl⟩, ?_⟩
    rw [← rls_len r2]
    exact h _ P H E_ New.refl .int
  · obtain ⟨v, rfl, r⟩ := rls1 rs
    cases g
    obtain ⟨p, vs, rfl, e, l, r2⟩ := dct_read r
    refine .inr ⟨p, _, rfl, e, ?_⟩
    rw [List.length_zip, ← l, Nat.min_self]
    exact h _ P H E_ New.refl .int
  · cases g
def gIx (d e : D) : Option D := match d with
  | .lst _ xs => (match e with
    | .int i => atI xs i
    | _ => none)
  | .rol xs => (match e with
    | .int i => atI xs i
    | _ => none)
  | .tup xs => (match e with
    | .int i => atI xs i
    | _ => none)
  | .str z => (match e with
    | .int i => if z.length ≤ sizeLine then (atI z.cps.toList i).map fun c => .str ⟨#[c]⟩ else none
    | _ => none)
  | .dct _ ks xs => (keyOf e).bind (getK ks xs)
  | .dcT _ ks xs => (match e with
    | .tup ds => (keysOf ds).bind (getK ks xs)
    | _ => none)
  | _ => none
def gIxI (d e : D) : Option D := match gIx d e with
  | some x => if isImm x = true then some x else none
  | none => none
abbrev rIxU (K : PySem.W.Frag) : R2 := fun x y H Q => rIx K x y H Q ∨ ∃ a v, x = .ref a ∧ DGet H a y (some v) ∧ Q v H
omit [TabC] in
theorem ix_U {X : Cx} (hu : X.A.units + 1 < cLine) : IxR X (rIxU X.K) := by
  intro value slice pins s σ H x y v u Q I rx ry h hs
  rcases h with h | ⟨a, w, rfl, g, q⟩
  · exact ix_seq value slice pins s σ H x y v u Q I rx ry h hs
  · cases rx
    exact tail_any (dict_typeIs I g) PySem.F.slot_dict_getitem.lookup (d_getItem hu I g ry fun w' s' I' rw' => ⟨w, H, I', rw', q⟩) hs
omit [TabC] in
theorem atI_rls {P : AS} {H : Hp} {ds : List D} {vs : List V} {i : Int} {d : D} {z : Bool} {F : AS} (r : Rls z K P H ds vs F) (h : atI ds i = some d) : ∃ v, atI vs i = some v ∧ Rl z K P H d v F := by
  unfold atI at h ⊢
  rw [← rls_len r]
  cases e : ixN ds.length i with
  | none => rw [e] at h; cases h
  | some j =>
    rw [e] at h
    exact rls_get r h
/-- by a look -/
theorem vIx0 {P : AS} {H : Hp} {d e x : D} {v w : V} {Q : VK} (r1 : Rl false K P H d v E_) (r2 : Rl false K P H e w E_) (g : gIx d e = some x) (h : ∀ u, Rl false K P H x u E_ → Q u H) : rIxU K v w H Q := by
  unfold gIx at g
  split at g
  · split at g
    · obtain ⟨p, vs, rfl, e, rs⟩ := lst_read r1
      obtain ⟨u, h1, h2⟩ := atI_rls rs g
      rw [rl_int r2]
      exact .inl (.inl ⟨p, vs, _, u, rfl, rfl, .inl (.inl e), h1, h u h2⟩)
    · cases g
  · split at g
    · obtain ⟨p, vs, rfl, e, rs⟩ := rol_read r1
      obtain ⟨u, h1, h2⟩ := atI_rls rs g
      rw [rl_int r2]
      exact .inl (.inl ⟨p, vs, _, u, rfl, rfl, e, h1, h u h2⟩)
    · cases g
  · split at g
    · obtain ⟨p, vs, rfl, e, _, rs⟩ := tup_read r1
      obtain ⟨u, h1, h2⟩ := atI_rls rs g
      rw [rl_int r2]
      exact .inl (.inr (.inl ⟨p, vs, _, u, rfl, rfl, .inl (.inl e), h1, h u h2⟩))
    · cases g
  · split at g
    · rename_i z _ i
      split at g
      · rename_i c
        cases e : atI z.cps.toList i with
        | none => rw [e] at g; cases g
        | some k =>
          rw [e] at g; cases g
          rw [rl_str r1, rl_int r2]
          exact .inl (.inr (.inr ⟨_, _, k, rfl, rfl, c, e, h _ .str⟩))
      · cases g
    · cases g
  · rename_i ks xs
    cases e1 : keyOf e with
    | none => rw [e1] at g; cases g
    | some k =>
      rw [e1] at g
      obtain ⟨p, vs, rfl, e2, l, rs⟩ := dct_read r1
      obtain ⟨u, h1, h2⟩ := getK_some rs l g
      rw [keyOf_rl r2 e1]
      exact .inr ⟨p, u, rfl, h1 ▸ DGet.kR e2, h u h2⟩
  · rename_i ks xs
    split at g
    · rename_i ds
      cases e1 : keysOf ds with
      | none => rw [e1] at g; cases g
      | some k =>
        rw [e1] at g
        obtain ⟨p, vs, rfl, e2, l, rs⟩ := dcT_read r1
        obtain ⟨u, h1, h2⟩ := getK_some rs l g
        obtain ⟨q, ws, rfl, e3, _, rs3⟩ := tup_read r2
        rw [keysOf_rls rs3 e1] at e3
        exact .inr ⟨p, u, rfl, h1 ▸ DGet.tR e2 e3, h u h2⟩
    · cases g
  · cases g
theorem vIxI : VOp2 K (rIxU K) gIxI := by
  intro P H d e v w x Q pin r1 r2 g h
  unfold gIxI at g
  cases e1 : gIx d e with
  | none => rw [e1] at g; cases g
  | some y =>
    rw [e1] at g
    simp only at g
    split at g
    · rename_i i
      cases g
      exact vIx0 r1 r2 e1 fun u r => h u P H E_ New.refl (rl_imm r i)
    · cases g
end
section
variable {X : Cx} {RX : RXR} {W : WX} {a b : Expr} {pos : Pos}
theorem dv_ixU {f k : Ev → Option D} (hu : X.A.units + 1 < cLine) (ha : DV X a f) (hb : DV X b k) (hs : PlainIx b) : DV X (.Subscript a b pos) (vOp2 gIx f k) := by
  refine pe_imp (pe_ix (ix_U hu) ha hb hs) fun σ H Q h => ?_
  obtain ⟨P, ρ, FE, S, h⟩ := h
  refine ⟨P, ρ, FE, S, ?_⟩
  unfold vOp2 at h
  cases e : f ρ with
  | none => simp only [e, Option.bind] at h
  | some d =>
    simp only [e, Option.bind] at h
    intro v P1 H1 n1 r1
    refine ⟨P1, ρ, FE, n1.stt S, ?_⟩
    cases e1 : k ρ with
    | none => simp only [e1] at h
    | some d' =>
      simp only [e1] at h
      intro w P2 H2 n2 r2
      cases e2 : gIx d d' with
      | none => simp only [e2] at h
      | some x =>
        simp only [e2] at h
        have r1' : Rl false X.K P2 H2 d v E_ := rl_mono r1 n2.mono (fun b o e _ => n2.same b o e) (fun _ q => q)
        exact vIx0 r1' r2 e2 fun u r => h u P2 H2 (n1.trans_ n2) r
theorem de_ixU {f k : Ev → R D} (hu : X.A.units + 1 < cLine) (ha : DE X RX W a f) (hb : DE X RX W b k) (hs : PlainIx b) : DE X RX W (.Subscript a b pos) (fOp2 gIxI f k) := de_ix (ix_U hu) vIxI ha hb hs
/-- a look, the index with its effects: the look is taken behind it -/
def fIxE (i : Nat) (k : Ev → R D) : Ev → R D := fun ρ => match ρ[i]? with
  | some (some _) => (k ρ).bind fun e ρ1 => (match ρ1[i]? with
    | some (some d) => R.of (gIxI d e) ρ1
    | _ => .stk)
  | _ => .stk
end
end Hap
namespace Hap
open PySem PySem.Spec PyProof.Rows L2
variable [TabC]
section
variable {K : PySem.W.Frag}
def gList (ds : List D) : Option D := match ds with
  | [.lst _ xs] => if isImms xs = true then some (.lst true xs) else none
  | [.rol xs] => if isImms xs = true then some (.lst true xs) else none
  | [.tup xs] => if isImms xs = true then some (.lst true xs) else none
  | _ => none
abbrev rListU (K : PySem.W.Frag) : List V → Hp → VK → Prop := fun xs H Q => ∃ p ys, xs = [.ref p] ∧ (SqL K H p ys ∨ SqT K H p ys) ∧ ∀ l, H l = none → Q (.ref l) (upd H l (.lst ys))
theorem vList : VOpN K (rListU K) gList := by
  intro P H ds vs x Q pin rs g h
  unfold gList at g
  split at g
  · obtain ⟨v, rfl, r⟩ := rls1 rs
    split at g
    · rename_i i
      cases g
      obtain ⟨p, vs, rfl, e, r2⟩ := lst_read r
      exact ⟨p, vs, rfl, .inl (.inl (.inl e)), fun l hl => let ⟨n, r⟩ := new_lst hl pin i r2; h _ _ _ _ n r⟩
    · cases g
  · obtain ⟨v, rfl, r⟩ := rls1 rs
    split at g
    · rename_i i
      cases g
      obtain ⟨p, vs, rfl, e, r2⟩ := rol_read r
      exact ⟨p, vs, rfl, .inl e, fun l hl => let ⟨n, r⟩ := new_lst hl pin i r2; h _ _ _ _ n r⟩
    · cases g
  · obtain ⟨v, rfl, r⟩ := rls1 rs
    split at g
    · rename_i i
      cases g
      obtain ⟨p, vs, rfl, e, _, r2⟩ := tup_read r
      exact ⟨p, vs, rfl, .inr (.inl (.inl e)), fun l hl => let ⟨n, r⟩ := new_lst hl pin i r2; h _ _ _ _ n r⟩
    · cases g
  · cases g
def gTuple (ds : List D) : Option D := match ds with
  | [.lst _ xs] => if isImms xs = true then some (.tup xs) else none
  | [.tup xs] => if isImms xs = true then some (.tup xs) else none
  | _ => none
abbrev rTupleU (K : PySem.W.Frag) : List V → Hp → VK → Prop := fun xs H Q => ∃ p ys, xs = [.ref p] ∧ ((SqL K H p ys ∧ ∀ l, H l = none → Q (.ref l) (upd H l (.tup ys))) ∨ (SqT K H p ys ∧ Q (.ref p) H))
theorem new_tup {P : AS} {H : Hp} {p : Addr} {ds : List D} {vs : List V} (hp : H p = none) (i : isImms ds = true) (rs : Rls false K P H ds vs E_) :
    New P H (fun b => P b ∨ b = p) (upd H p (.tup vs)) E_ ∧ Rl true K (fun b => P b ∨ b = p) (upd H p (.tup vs)) (.tup ds) (.ref p) E_ :=
  ⟨New.tup hp, .tup upd_same (.inr rfl) (rls_mono (z := true) (F := E_) (rls_imm rs i) (fun _ q => .inl q) (fun b o e _ _ => by rw [upd_ne (ne_of_none e hp)]; exact e) fun _ z => z)⟩
theorem vTuple : VOpN K (rTupleU K) gTuple := by
  intro P H ds vs x Q pin rs g h
  unfold gTuple at g
  split at g
  · obtain ⟨v, rfl, r⟩ := rls1 rs
    split at g
    · rename_i i
      cases g
      obtain ⟨p, vs, rfl, e, r2⟩ := lst_read r
      exact ⟨p, vs, rfl, .inl ⟨.inl (.inl e), fun l hl => let ⟨n, r⟩ := new_tup hl i r2; h _ _ _ _ n r⟩⟩
    · cases g
  · obtain ⟨v, rfl, r⟩ := rls1 rs
    split at g
    · rename_i i
      cases g
      obtain ⟨p, vs, rfl, e, _, r2⟩ := tup_read r
      refine ⟨p, vs, rfl, .inr ⟨.inl (.inl e), h _ P H E_ New.refl (rl_imm r (by simpa only [isImm] using i))⟩⟩
    · cases g
  · cases g
def pairsD : List D → Option (List (Key × D))
  | [] => some []
  | .tup [k, d] :: ds => match keyOf k, pairsD ds with
    | some k, some r => if isImm d = true then some ((k, d) :: r) else none
    | _, _ => none
  | _ :: _ => none
def mergeD (m : List (Key × D)) : List Key × List D := m.foldl (fun acc kd => putKs acc.1 acc.2 kd.1 kd.2) ([], [])
def gDict (ds : List D) : Option D := match ds with
  | [.lst _ xs] => (pairsD xs).map fun m => .dct true (mergeD m).1 (mergeD m).2
  | [.dct _ ks xs] => if isImms xs = true then some (.dct true ks xs) else none
  | _ => none
abbrev rDictU (K : PySem.W.Frag) : List V → Hp → VK → Prop := fun xs H Q => (∃ (a : Addr) (ps : List Addr) (kvs : List (Key × V)), xs = [.ref a] ∧ SqL K H a (ps.map V.ref) ∧ Paired (fun p kv => SqT K H p [kV kv.1, kv.2]) ps kvs ∧
    ∀ p, H p = none → Q (.ref p) (upd H p (.dK (mergeK [] kvs)))) ∨ (∃ a kvs, xs = [.ref a] ∧ Rd H a (.dK kvs) ∧ ∀ p, H p = none → Q (.ref p) (upd H p (.dK kvs)))
omit [TabC] in
theorem call_dictU {X : Cx} (hc : X.calm = true) : CallR X (.type "dict") (rDictU X.K) := by
  refine CallR.or (call_dictP hc) ?_
  intro pins s σ H xs us Q I r h
  obtain ⟨a, kvs, rfl, e, q⟩ := h
  obtain ⟨u, rfl, ru⟩ := vals1 r
  cases ru
  exact d_copyOf I e fun p s' hp I' => ⟨.ref p, _, I', rfl, q p hp⟩
omit [TabC] in
theorem pairs_ok {P : AS} {H : Hp} : ∀ {ds : List D} {vs : List V} {F : AS} {m : List (Key × D)}, Rls false K P H ds vs F → pairsD ds = some m →
    ∃ (ps : List Addr) (ws : List V), vs = ps.map V.ref ∧ Paired (fun p kv => SqT K H p [kV kv.1, kv.2]) ps ((m.map (·.1)).zip ws) ∧ m.length = ws.length ∧ Rls false K P H (m.map (·.2)) ws E_ ∧ (m.map (·.2)).all isImm = true
  | [], _, _, _, .nil, e => by cases e; exact ⟨[], [], rfl, .nil, rfl, .nil, rfl⟩
  | d :: ds, _, _, m, .cons r rs s1 s2 dj, e => by
    unfold pairsD at e
    split at e
    · rename_i heq; cases heq
    · rename_i k d' ds' heq
      cases heq
      split at e
      · rename_i kk rr e1 e2
        split at e
        · rename_i i
          cases e
          obtain ⟨ps, ws, h1, h2, h3, h4, h5⟩ := pairs_ok rs e2
          obtain ⟨p, vs2, rfl, et, _, rs2⟩ := tup_read r
          obtain ⟨a, b, F1, F2, rfl, ra, rb, _⟩ := rls2 rs2
          refine ⟨p :: ps, b :: ws, by rw [h1]; rfl, .cons (.inl (.inl ?_)) h2, by simp [h3], .cons (F1 := E_) (F2 := E_) (rl_mono (rl_view (F' := E_) rb) (fun _ q => q) (fun _ _ e _ _ => e) fun _ z => z) h4 (fun _ z => z) (fun _ z => z) fun _ z => z.elim, by rw [List.map_cons, List.all_cons, h5]; simpa using i⟩
          rw [et, keyOf_rl ra e1]
        · cases e
      · cases e
    · cases e
theorem merge_ok {P : AS} {H : Hp} : ∀ {m : List (Key × D)} {ws : List V} {ks : List Key} {ds : List D} {us : List V}, m.length = ws.length → Rls false K P H (m.map (·.2)) ws E_ → (m.map (·.2)).all isImm = true → Rls false K P H ds us E_ → ks.length = us.length →
    ∃ us', ((m.map (·.1)).zip ws).foldl (fun acc kv => putK acc kv.1 kv.2) (ks.zip us) = ((m.foldl (fun acc kd => putKs acc.1 acc.2 kd.1 kd.2) (ks, ds)).1).zip us' ∧ ((m.foldl (fun acc kd => putKs acc.1 acc.2 kd.1 kd.2) (ks, ds)).1).length = us'.length ∧
      Rls false K P H ((m.foldl (fun acc kd => putKs acc.1 acc.2 kd.1 kd.2) (ks, ds)).2) us' E_
  | [], _, ks, ds, us, _, _, _, r, l => ⟨us, rfl, l, r⟩
  | (k, d) :: m, [], _, _, _, l, _, _, _, _ => by simp at l
  | (k, d) :: m, w :: ws, ks, ds, us, l, rm, im, r, lk => by
    rw [List.map_cons, List.all_cons, Bool.and_eq_true] at im
    cases rm with
    | cons q qs s1 s2 dj =>
      obtain ⟨us1, e1, e2, e3⟩ := put_ok (k := k) (d := d) (v := w) r im.1 (rl_view q) lk
      have := merge_ok (m := m) (ws := ws) (ks := (putKs ks ds k d).1) (ds := (putKs ks ds k d).2) (us := us1) (by simpa using l) (rls_view qs) im.2 e3 e2
      rw [← e1] at this
      simpa using this
omit [TabC] in
theorem isImms_all : ∀ {ds : List D}, isImms ds = ds.all isImm
  | [] => rfl
  | d :: ds => by simp only [isImms, List.all_cons, isImms_all (ds := ds)]
omit [TabC] in
theorem replK_all {κ : Type} [DecidableEq κ] {k : κ} {d : D} (hd : isImm d = true) : ∀ {ks : List κ} {ds : List D}, ds.all isImm = true → (replK ks ds k d).all isImm = true
  | [], _, _ => by cases ‹List D› <;> rfl
  | _ :: _, [], _ => rfl
  | k' :: ks, x :: xs, h => by
    simp only [List.all_cons, Bool.and_eq_true] at h
    simp only [replK, List.all_cons, replK_all hd h.2, Bool.and_true]
    split
    · exact hd
    · exact h.1
theorem putKs_all {κ : Type} [DecidableEq κ] {ks : List κ} {ds : List D} {k : κ} {d : D} (hd : isImm d = true) (h : ds.all isImm = true) : (putKs ks ds k d).2.all isImm = true := by
  unfold putKs
  split
  · exact replK_all hd h
  · simp only [List.all_append, h, List.all_cons, hd]; rfl
theorem mergeD_all : ∀ {m : List (Key × D)} {ks : List Key} {ds : List D}, (m.map (·.2)).all isImm = true → ds.all isImm = true → (m.foldl (fun acc kd => putKs acc.1 acc.2 kd.1 kd.2) (ks, ds)).2.all isImm = true
  | [], _, _, _, h => h
  | (k, d) :: m, ks, ds, hm, h => by
    rw [List.map_cons, List.all_cons, Bool.and_eq_true] at hm
    have := mergeD_all (m := m) (ks := (putKs ks ds k d).1) (ds := (putKs ks ds k d).2) hm.2 (putKs_all hm.1 h)
    simpa using this
theorem new_dct {P : AS} {H : Hp} {p : Addr} {ks : List Key} {ds : List D} {vs : List V} (hp : H p = none) (pin : ∀ b, P b → H b ≠ none) (i : isImms ds = true) (l : ks.length = vs.length) (rs : Rls false K P H ds vs E_) :
    New P H P (upd H p (.dK (ks.zip vs))) (fun b => b = p) ∧ Rl true K P (upd H p (.dK (ks.zip vs))) (.dct true ks ds) (.ref p) (fun b => b = p) :=
  ⟨New.lst hp pin, .dctO (F' := E_) upd_same rfl l (fun _ => rfl) (fun b z => z.elim) (rls_mono (z := true) (F := E_) (rls_imm rs i) (fun _ q => q) (fun b o e _ _ => by rw [upd_ne (ne_of_none e hp)]; exact e) fun _ z => z)⟩
theorem vDict : VOpN K (rDictU K) gDict := by
  intro P H ds vs x Q pin rs g h
  unfold gDict at g
  split at g
  · obtain ⟨v, rfl, r⟩ := rls1 rs
    rename_i o xs
    cases e1 : pairsD xs with
    | none => rw [e1] at g; cases g
    | some m =>
      rw [e1] at g; cases g
      obtain ⟨p, vs, rfl, e, r2⟩ := lst_read r
      obtain ⟨ps, ws, rfl, h2, h3, h4, h5⟩ := pairs_ok r2 e1
      refine .inl ⟨p, ps, _, rfl, .inl (.inl e), h2, fun l hl => ?_⟩
      obtain ⟨us, z1, z2, z3⟩ := merge_ok (ks := []) (ds := []) (us := []) h3 h4 h5 .nil rfl
      have z1' : mergeK [] ((m.map (·.1)).zip ws) = (mergeD m).1.zip us := z1
      rw [z1']
      obtain ⟨n, r⟩ := new_dct hl pin (by rw [isImms_all]; exact mergeD_all h5 rfl) z2 z3
      exact h _ _ _ _ n r
  · obtain ⟨v, rfl, r⟩ := rls1 rs
    split at g
    · rename_i i
      cases g
      obtain ⟨p, vs, rfl, e, l, r2⟩ := dct_read r
      exact .inr ⟨p, _, rfl, e, fun a ha => let ⟨n, r⟩ := new_dct ha pin i l r2; h _ _ _ _ n r⟩
    · cases g
  · cases g
def boolsD : List D → Option (List Bool)
  | [] => some []
  | .bl b :: ds => (boolsD ds).map (b :: ·)
  | _ :: _ => none
def intsD : List D → Option (List Int)
  | [] => some []
  | .int b :: ds => (intsD ds).map (b :: ·)
  | _ :: _ => none
def strsD : List D → Option (List Str)
  | [] => some []
  | .str b :: ds => (strsD ds).map (b :: ·)
  | _ :: _ => none
omit [TabC] in
theorem boolsD_cons {d : D} {ds : List D} {bs : List Bool} (h : boolsD (d :: ds) = some bs) : ∃ b cs, d = .bl b ∧ boolsD ds = some cs ∧ bs = b :: cs := by
  cases d <;> simp only [boolsD] at h <;> try (cases h; done)
  cases e : boolsD ds with
  | none => rw [e] at h; cases h
  | some cs => rw [e] at h; cases h; exact ⟨_, cs, rfl, rfl, rfl⟩
theorem bools_rls {P : AS} {H : Hp} {z : Bool} : ∀ {ds : List D} {vs : List V} {F : AS} {bs : List Bool}, Rls z K P H ds vs F → boolsD ds = some bs → vs = bs.map V.bl
  | _, _, _, _, .nil, h => by cases h; rfl
  | _, _, _, _, .cons (d := d) (ds := ds) r rs _ _ _, h => by
    obtain ⟨b, cs, rfl, h2, rfl⟩ := boolsD_cons h
    rw [rl_bl r, bools_rls rs h2]; rfl
omit [TabC] in
theorem intsD_cons {d : D} {ds : List D} {bs : List Int} (h : intsD (d :: ds) = some bs) : ∃ b cs, d = .int b ∧ intsD ds = some cs ∧ bs = b :: cs := by
  cases d <;> simp only [intsD] at h <;> try (cases h; done)
  cases e : intsD ds with
  | none => rw [e] at h; cases h
  | some cs => rw [e] at h; cases h; exact ⟨_, cs, rfl, rfl, rfl⟩
theorem ints_rls {P : AS} {H : Hp} {z : Bool} : ∀ {ds : List D} {vs : List V} {F : AS} {bs : List Int}, Rls z K P H ds vs F → intsD ds = some bs → vs = bs.map V.int
  | _, _, _, _, .nil, h => by cases h; rfl
  | _, _, _, _, .cons (d := d) (ds := ds) r rs _ _ _, h => by
    obtain ⟨b, cs, rfl, h2, rfl⟩ := intsD_cons h
    rw [rl_int r, ints_rls rs h2]; rfl
omit [TabC] in
theorem strsD_cons {d : D} {ds : List D} {bs : List Str} (h : strsD (d :: ds) = some bs) : ∃ b cs, d = .str b ∧ strsD ds = some cs ∧ bs = b :: cs := by
  cases d <;> simp only [strsD] at h <;> try (cases h; done)
  cases e : strsD ds with
  | none => rw [e] at h; cases h
  | some cs => rw [e] at h; cases h; exact ⟨_, cs, rfl, rfl, rfl⟩
theorem strs_rls {P : AS} {H : Hp} {z : Bool} : ∀ {ds : List D} {vs : List V} {F : AS} {bs : List Str}, Rls z K P H ds vs F → strsD ds = some bs → vs = bs.map V.str
  | _, _, _, _, .nil, h => by cases h; rfl
  | _, _, _, _, .cons (d := d) (ds := ds) r rs _ _ _, h => by
    obtain ⟨b, cs, rfl, h2, rfl⟩ := strsD_cons h
    rw [rl_str r, strs_rls rs h2]; rfl
/-- the items of a list, read -/
def lstOf (d : D) : Option (List D) := match d with
  | .lst _ xs => some xs
  | .rol xs => some xs
  | _ => none
omit [TabC] in
theorem lstOf_read {P : AS} {H : Hp} {z : Bool} {d : D} {v : V} {F : AS} {xs : List D} (r : Rl z K P H d v F) (h : lstOf d = some xs) : ∃ p vs, v = .ref p ∧ SqL K H p vs ∧ Rls false K P H xs vs E_ := by
  unfold lstOf at h
  split at h
  · cases h; obtain ⟨p, vs, rfl, e, r2⟩ := lst_read r; exact ⟨p, vs, rfl, .inl (.inl e), r2⟩
  · cases h; obtain ⟨p, vs, rfl, e, r2⟩ := rol_read r; exact ⟨p, vs, rfl, e, r2⟩
  · cases h
def gAny (ds : List D) : Option D := match ds with
  | [d] => (lstOf d).bind fun xs => (boolsD xs).map fun bs => .bl (bs.any id)
  | _ => none
def gAll (ds : List D) : Option D := match ds with
  | [d] => (lstOf d).bind fun xs => (boolsD xs).map fun bs => .bl (bs.all id)
  | _ => none
def gSum (ds : List D) : Option D := match ds with
  | [d] => (lstOf d).bind fun xs => (intsD xs).map fun bs => .int bs.sum
  | _ => none
theorem lst1 {α : Type} {P : AS} {H : Hp} {ds : List D} {vs : List V} {x : D} {f : List D → Option α} {k : α → D} {G : List D → Option D} (rs : Rls false K P H ds vs E_) (g : G ds = some x) (hG : ∀ ds, G ds = match ds with
  | [d] => (lstOf d).bind fun xs => (f xs).map k
  | _ => none) : ∃ p ws xs a, vs = [.ref p] ∧ SqL K H p ws ∧ Rls false K P H xs ws E_ ∧ f xs = some a ∧ x = k a := by
  rw [hG] at g
  split at g
  · rename_i d
    obtain ⟨v, rfl, r⟩ := rls1 rs
    cases e : lstOf d with
    | none => rw [e] at g; cases g
    | some xs =>
      rw [e] at g
      obtain ⟨p, ws, rfl, s, r2⟩ := lstOf_read r e
      cases e2 : f xs with
      | none => simp only [Option.bind, e2] at g; cases g
      | some a => simp only [Option.bind, e2] at g; cases g; exact ⟨p, ws, xs, a, rfl, s, r2, e2, rfl⟩
  · cases g
theorem vAny : VOpN K (rAny K) gAny := by
  intro P H ds vs x Q pin rs g h
  obtain ⟨p, ws, xs, bs, rfl, s, r, e, rfl⟩ := lst1 (f := boolsD) (k := fun bs => .bl (bs.any id)) (G := gAny) rs g (fun ds => by unfold gAny; rfl)
  rw [bools_rls r e] at s
  exact ⟨p, bs, rfl, s, h _ P H E_ New.refl .bl⟩
theorem vAll : VOpN K (rAll K) gAll := by
  intro P H ds vs x Q pin rs g h
  obtain ⟨p, ws, xs, bs, rfl, s, r, e, rfl⟩ := lst1 (f := boolsD) (k := fun bs => .bl (bs.all id)) (G := gAll) rs g (fun ds => by unfold gAll; rfl)
  rw [bools_rls r e] at s
  exact ⟨p, bs, rfl, s, h _ P H E_ New.refl .bl⟩
theorem vSum : VOpN K (rSum K) gSum := by
  intro P H ds vs x Q pin rs g h
  obtain ⟨p, ws, xs, bs, rfl, s, r, e, rfl⟩ := lst1 (f := intsD) (k := fun bs => .int bs.sum) (G := gSum) rs g (fun ds => by unfold gSum; rfl)
  rw [ints_rls r e] at s
  exact ⟨p, bs, rfl, s, h _ P H E_ New.refl .int⟩
def gAbs (ds : List D) : Option D := match ds with
  | [.int i] => some (.int (if i < 0 then -i else i))
  | _ => none
theorem vAbs : VOpN K (fun xs H Q => ∃ i, xs = [.int i] ∧ Q (.int (if i < 0 then -i else i)) H) gAbs := by
  intro P H ds vs x Q pin rs g h
  unfold gAbs at g
  split at g
  · cases g
    obtain ⟨v, rfl, r⟩ := rls1 rs
    rw [rl_int r]
    exact ⟨_, rfl, h _ P H E_ New.refl .int⟩
  · cases g
def gMax2 (ds : List D) : Option D := match ds with
  | [.int i, .int j] => some (.int (if j > i then j else i))
  | _ => none
def gMin2 (ds : List D) : Option D := match ds with
  | [.int i, .int j] => some (.int (if j < i then j else i))
  | _ => none
theorem vMax2 : VOpN K (fun xs H Q => ∃ i j, xs = [.int i, .int j] ∧ Q (.int (if j > i then j else i)) H) gMax2 := by
  intro P H ds vs x Q pin rs g h
  unfold gMax2 at g
  split at g
  · cases g
    obtain ⟨v, w, _, _, rfl, r, r', _⟩ := rls2 rs
    rw [rl_int r, rl_int r']
    exact ⟨_, _, rfl, h _ P H E_ New.refl .int⟩
  · cases g
theorem vMin2 : VOpN K (fun xs H Q => ∃ i j, xs = [.int i, .int j] ∧ Q (.int (if j < i then j else i)) H) gMin2 := by
  intro P H ds vs x Q pin rs g h
  unfold gMin2 at g
  split at g
  · cases g
    obtain ⟨v, w, _, _, rfl, r, r', _⟩ := rls2 rs
    rw [rl_int r, rl_int r']
    exact ⟨_, _, rfl, h _ P H E_ New.refl .int⟩
  · cases g
def tyN (d : D) : String := match d with
  | .non => "NoneType"
  | .bl _ => "bool"
  | .int _ => "int"
  | .str _ => "str"
  | .lst _ _ => "list"
  | .rol _ => "list"
  | .tup _ => "tuple"
  | .dct _ _ _ => "dict"
  | .dcT _ _ _ => "dict"
  | .gv _ => "?"
  | .obj _ _ _ _ => "?"
/-- a thing whose type is not told here: a type, a dict that may be locked -/
def noTy (d : D) : Bool := match d with
  | .gv _ => true
  | .obj _ _ _ _ => true
  | .dct false _ _ => true
  | .dcT false _ _ => true
  | _ => false
def gIsi (ds : List D) : Option D := match ds with
  | [d, .gv (.ty n)] => if noTy d = true then none else (kitB (tyN d) n).map .bl
  | _ => none
omit [TabC] in
theorem ty_of {P : AS} {H : Hp} {d : D} {v : V} {z : Bool} {F : AS} (r : Rl z K P H d v F) (n : noTy d = false) : TyX K H v (.type (tyN d)) := by
  cases r with
  | non => exact .base .non
  | bl => exact .base (.bl _)
  | int => exact .base (.int _)
  | str => exact .base (.str _)
  | lstO e f s r => exact .base (.lst e)
  | lstI e p i r => exact .base (.lst e)
  | tup e p r => exact .base (.tup e)
  | dctO e k l f s r => exact .base (.dK e)
  | dctI e k l p i r => cases n
  | dcTO e k l f s r => exact .base (.dT e)
  | dcTI e k l p i r => cases n
  | rol e i r =>
    rcases e with ⟨_, e | ⟨o, e⟩⟩ | ⟨o, its, nn, e, c, _⟩
    · exact .base (.lst e)
    · exact .base (.frz e)
    · exact .kList e c
  | gv => cases n
  | objO e k l f s r => cases n
  | objI e k l p i r => cases n
theorem vIsi : VOpN K (rIsi K) gIsi := by
  intro P H ds vs x Q pin rs g h
  unfold gIsi at g
  split at g
  · rename_i d n
    split at g
    · cases g
    · rename_i ng
      cases e : kitB (tyN d) n with
      | none => rw [e] at g; cases g
      | some b =>
        rw [e] at g; cases g
        obtain ⟨v, w, _, _, rfl, r, r', _⟩ := rls2 rs
        cases r' with
        | gv => exact ⟨v, .ty n, _, _, b, rfl, .ty n, ty_of r (by simpa using ng), kit_ty e, h _ P H E_ New.refl .bl⟩
  · cases g
end
end Hap
namespace Hap
open PySem PySem.Spec PyProof.Rows L2
variable [TabC]
def Ites (x : Str) : It := ⟨fun i _ => i < x.cps.size, fun i H v H' => ∃ T c, v = .ref T ∧ H T = none ∧ H' = upd H T (.tup [.int (i : Nat), .str ⟨#[c]⟩]) ∧ x.cps[i]? = some c, fun i _ => i = x.cps.size⟩
omit [TabC] in
theorem turn_enumS {P : Program} {w : World} {K : PySem.W.Frag} {elts : List Expr} {kk : Nat} {tpos : Pos} (e it : Addr) (x : Str) (t : Tok) :
    Turn P w K (.Tuple elts kk tpos) (Ites x) [e, it] e (fun i h => (∃ old, IsEnum h e it ((i : Nat) : Int) old) ∧ h.IsStrIter it (strIterType x) x t i ∧ e ≠ it) where
  mem := by simp
  obj := fun i h st b hb => by
    obtain ⟨⟨old, he⟩, ⟨o, ho, hc, hd⟩, _⟩ := st
    have e' : b = e ∨ b = it := by simpa using hb
    rcases e' with z | z
    · rw [z]; exact ⟨_, he, fun v q => nomatch q⟩
    · rw [z]; exact ⟨o, ho, fun v q => by rw [hd] at q; cases q⟩
  keep := fun i h h' st k => let ⟨⟨old, he⟩, ⟨o, ho, r⟩, hne⟩ := st; ⟨⟨old, k e (by simp) _ he⟩, ⟨o, k it (by simp) o ho, r⟩, hne⟩
  item := by
    intro X hP hw hK hc i pins s σ H E I hf st hg
    subst hP hw hK
    obtain ⟨⟨old, he⟩, hit, hne⟩ := st
    have hel : e < s.heap.objs.size := Heap.lt_size he
    have hil : it < s.heap.objs.size := by obtain ⟨_, q, _⟩ := hit; exact Heap.lt_size q
    have Dr : Draws X.prog X.w X.A.in1 it [it] x.cps.size (fun i v => ∃ c u, x.cps[i]? = some c ∧ v = .str ⟨#[c]⟩ u) (fun i h => h.IsStrIter it (strIterType x) x t i) := Draws.text (A := X.A.in1) (I.ok.hd hc) it x t
    refine wpAny_pyNext_enum_itemD Dr he hit hg hne (by simpa using hne) fun u h' tk hPu ho hit' hT hsz hk => ?_
    obtain ⟨c, u', hcx, rfl⟩ := hPu
    refine ⟨_, rfl, wpAny_letOwnedTupleGo_enum (s := { s with heap := h', toks := tk + 1 }) ho fun h'' he' sb => ?_⟩
    have hT2 : h''.get? s.heap.objs.size = some { cls := .type "tuple", data := .seq #[.int i tk, .str ⟨#[c]⟩ u'] } := (sb.2 _ (Nat.ne_of_gt hel)).trans hT
    have new : ObjOk X.prog X.w (upd H s.heap.objs.size (.tup [.int (i : Nat), .str ⟨#[c]⟩])) h'' s.heap.objs.size (.tup [.int (i : Nat), .str ⟨#[c]⟩]) :=
      ⟨by show 2 ≤ sizeLine; decide, [.int i tk, .str ⟨#[c]⟩ u'], .cons ⟨_, rfl⟩ (.cons ⟨_, rfl⟩ .nil), ⟨_, hT2, rfl, _, rfl⟩⟩
    have I1 : Inv X pins σ (upd H s.heap.objs.size (.tup [.int (i : Nat), .str ⟨#[c]⟩])) { s with heap := h'', toks := tk + 1 } :=
      I.turnedNew (ch := [e, it]) (fun b ob hb q => (sb.2 b (fun z => hb (by simp [z]))).trans (hk b ob (fun z => hb (by simp [z])) (fun z => hb (by simp [z])) q)) hf (Nat.le_refl _) new
    obtain ⟨oi, hoi, hr⟩ := hit'
    refine ⟨.ref s.heap.objs.size, _, I1, rfl, ⟨_, c, rfl, I.hok.fresh (Nat.le_refl _), rfl, hcx⟩, ⟨⟨.str ⟨#[c]⟩ u', ?_⟩, ⟨oi, (sb.2 it (Ne.symm hne)).trans hoi, hr⟩, hne⟩, fun b hb => ?_⟩
    · have e1 : ((i + 1 : Nat) : Int) = (i : Int) + 1 := by omega
      rw [e1]; exact he'
    · have hb' : b < s.heap.objs.size := by
        have e' : b = e ∨ b = it := by simpa using hb
        rcases e' with z | z
        · rw [z]; exact hel
        · rw [z]; exact hil
      rw [upd_ne (Nat.ne_of_lt hb')]
      exact (hf b hb).1
  done := by
    intro X hP hw hK hc i pins s σ H E I hf st hg
    subst hP hw hK
    obtain ⟨⟨old, he⟩, hit, hne⟩ := st
    obtain ⟨f0, f1, f2, f3, f4, f5⟩ := hf it (by simp)
    have hg : i = x.cps.size := hg
    subst hg
    have Dr : Draws X.prog X.w X.A.in1 it [it] x.cps.size (fun i v => ∃ c u, x.cps[i]? = some c ∧ v = .str ⟨#[c]⟩ u) (fun i h => h.IsStrIter it (strIterType x) x t i) := Draws.text (A := X.A.in1) (I.ok.hd hc) it x t
    exact wpAny_pyNext_enum_endD Dr he hit fun h' eb => ⟨rfl, I.turned (t' := s.toks) (fun b o hb q => eb b o hb q) f0 f1 f3 f4 f5⟩
  self := fun A i s Q E st h => let ⟨⟨_, he⟩, _⟩ := st; wpAny_pyIter_enum he h
def iEnumS (ta : TA) : TI := fun σ H R => ta σ H fun vs H1 => ∃ x, vs = [.str x] ∧ R (Ites x) H1
theorem pi_enumS {X : Cx} {e : Expr} {ta : TA} {p pos tpos : Pos} {elts : List Expr} {kk : Nat} (hg : Gl X "enumerate") (hm : X.mg "enumerate" = none) (ha : PA X [e] ta) (hs : starEach [e] X.env = [(false, eval e X.env)] := by rfl) :
    PI X (.Tuple elts kk tpos) (.Call (.Name "enumerate" p) [e] [] pos) (iEnumS ta) := by
  refine ⟨fun pins s σ H R I h => ?_⟩
  refine Call_ (ld_blt I hg hm boot_enumerate (PyProof.Rows.callWith_type1 (thn (ha.run pos pins s σ H _ I h) fun us s1 ⟨vs, H1, I1, r1, q1⟩ => ?_) hs rfl))
  obtain ⟨x, ex, q⟩ := q1
  subst ex
  cases r1 with
  | cons r rr =>
    cases rr
    obtain ⟨t, rfl⟩ := r
    refine call_enumerate_str fun h' he hit hsz hk => wpAny_pyIter_enum he ?_
    have I2 : Inv X pins σ H1 { s1 with heap := h' } := I1.kept (t' := s1.toks) hk
    refine ⟨s1.heap.objs.size + 1, [s1.heap.objs.size + 1, s1.heap.objs.size], _, _, H1, rfl, I2, turn_enumS (s1.heap.objs.size + 1) s1.heap.objs.size x t, ⟨⟨.none, he⟩, hit, Nat.succ_ne_self _⟩, fun b hb => ?_, q⟩
    have e' : b = s1.heap.objs.size + 1 ∨ b = s1.heap.objs.size := by simpa using hb
    have hle : s1.heap.objs.size ≤ b := by
      rcases e' with z | z
      · rw [z]; exact Nat.le_add_right _ _
      · rw [z]; exact Nat.le_refl _
    exact I1.fpOk hle (I1.hok.fresh hle)
theorem walks_enumS {K : PySem.W.Frag} {P0 : AS} {H0 : Hp} {x : Str} : Walks K (Ites x) P0 H0 (enumD 0 (strD x)) where
  go := fun P H i d _ hP hH hd => by
    obtain ⟨e, h1, h2⟩ := enumD_get hd
    obtain ⟨c, h3, h4⟩ := strD_get h1
    refine ⟨(Array.getElem?_eq_some_iff.mp h3).1, fun v H3 y => ?_⟩
    obtain ⟨T, c', rfl, hT, rfl, hc⟩ := y
    rw [h3] at hc; cases hc
    rw [h2, h4, Nat.zero_add]
    exact New.pair hT .int .str
  stop := fun H hH => by show _ = x.cps.size; rw [enumD_len, strD_len]
def enumS (ds : List D) : Option (List D) := match ds with
  | [.str x] => some (enumD 0 (strD x))
  | _ => none
section
variable {X : Cx} {RX : RXR} {W : WX} {e : Expr} {es : List Expr} {pos p : Pos}
theorem di_enumS {a : Expr} {f : Ev → R (List D)} {tpos : Pos} {elts : List Expr} {kk : Nat} (hg : Gl X "enumerate") (hm : X.mg "enumerate" = none) (ha : DA X RX W [a] f) (hs : starEach [a] X.env = [(false, eval a X.env)] := by rfl) :
    DI X RX W (.Tuple elts kk tpos) (.Call (.Name "enumerate" p) [a] [] pos) (fItN enumS f) := by
  refine pi_imp (pi_enumS hg hm ha hs) fun σ H Q q => a_it q fun P H1 ρ FE vs ds F ds' S T g k => ?_
  unfold enumS at g
  split at g
  · cases g
    obtain ⟨v, rfl, r⟩ := rls1 T.rl
    rw [rl_str r]
    exact ⟨_, rfl, k _ walks_enumS⟩
  · cases g
/-- range(i, j, -1) -/
theorem di_rangeD {iter : Expr} {f : Ev → R (List D)} {tg : Expr} (h : PI X tg iter (iRng3 (tA X.K RX W f))) : DI X RX W tg iter (fItN rngD f) := by
  refine pi_imp h fun σ H Q q => a_it q fun P H1 ρ FE vs ds F ds' S T g k => ?_
  obtain ⟨i, j, rfl, ⟨h1, h2, h3, h4⟩, rfl⟩ := rngD_ok g
  have rl := T.rl
  cases rl with
  | cons r rs _ _ _ =>
    obtain ⟨v, w, _, _, rfl, r1, r2, _⟩ := rls2 rs
    rw [rl_int r, rl_int r1, rl_int r2]
    exact ⟨i, j, -1, (i - j).toNat, rfl, RgC.neg (by omega) (by omega) (by omega) (by omega), k _ walks_rangeC⟩
def fLst (f : Ev → R (List D)) : Ev → R D := fun ρ => (f ρ).bind fun ds ρ1 => if ds.length ≤ sizeLine then .ok (.lst true ds) ρ1 else .stk
def fTup (f : Ev → R (List D)) : Ev → R D := fun ρ => (f ρ).bind fun ds ρ1 => if ds.length ≤ sizeLine then .ok (.tup ds) ρ1 else .stk
theorem de_lst {f : Ev → R (List D)} (h : DA X RX W es f) : DE X RX W (.List es pos) (fLst f) := by
  refine pe_imp (pe_lst h) fun σ H Q q => ?_
  obtain ⟨P, ρ, FE, S, q⟩ := q
  refine ⟨P, ρ, FE, S, ?_⟩
  unfold fLst at q
  cases e : f ρ with
  | exc x ρ1 => simp only [e, R.bind] at q; exact q
  | stk => simp only [e, R.bind] at q
  | ok ds ρ1 =>
    simp only [e, R.bind] at q
    intro vs P1 H1 FE1 F1 S1 T1 t1
    by_cases c : ds.length ≤ sizeLine
    · simp only [if_pos c] at q
      refine ⟨by rw [← rls_len T1.rl]; exact c, fun a ha => ?_⟩
      have n : New P1 H1 P1 (upd H1 a (.lst vs)) (fun b => b = a) := New.lst ha S1.pin
      refine q (.ref a) P1 _ FE1 (fun b => F1 b ∨ b = a) (n.stt S1) ⟨.lstO (F' := F1) upd_same (fun _ => .inr rfl) (fun b z => ⟨.inl z, fun w => (T1.own b z).1 (by rw [w]; exact ha)⟩) (rls_mono T1.rl (fun _ q => q) (fun b o e _ => n.same b o e) fun _ q => q), fun b z => ?_⟩ ((t1.trans (n.tr (U0 := fun b => U FE1 b ∨ F1 b))).less fun b z => z.elim (fun z => .inl (.inl z)) fun z => z.elim (fun z => .inl (.inr z)) .inr)
      rcases z with z | z
      · exact ⟨n.alive b (T1.own b z).1, (T1.own b z).2⟩
      · subst z
        exact ⟨by rw [upd_same]; simp, fun w => S1.pin _ w ha, fun ⟨i, w⟩ => (S1.fin i _ w).1 ha⟩
    · simp only [if_neg c] at q
theorem de_tup {f : Ev → R (List D)} {x1} (h : DA X RX W es f) : DE X RX W (.Tuple es x1 pos) (fTup f) := by
  refine pe_imp (pe_tup h) fun σ H Q q => ?_
  obtain ⟨P, ρ, FE, S, q⟩ := q
  refine ⟨P, ρ, FE, S, ?_⟩
  unfold fTup at q
  cases e : f ρ with
  | exc x ρ1 => simp only [e, R.bind] at q; exact q
  | stk => simp only [e, R.bind] at q
  | ok ds ρ1 =>
    simp only [e, R.bind] at q
    intro vs P1 H1 FE1 F1 S1 T1 t1
    by_cases c : ds.length ≤ sizeLine
    · simp only [if_pos c] at q
      refine ⟨by rw [← rls_len T1.rl]; exact c, fun a ha => ?_⟩
      have n : New P1 H1 (fun b => P1 b ∨ b = a) (upd H1 a (.tup vs)) E_ := New.tup ha
      refine q (.ref a) _ _ FE1 F1 (n.stt S1) ⟨.tup upd_same (.inr rfl) (rls_mono T1.rl n.mono (fun b o e _ => n.same b o e) fun _ q => q), fun b z => ⟨n.alive b (T1.own b z).1, fun w => w.elim (T1.own b z).2.1 fun w => (T1.own b z).1 (by rw [w]; exact ha), (T1.own b z).2.2⟩⟩
        ((t1.trans (n.tr (U0 := fun b => U FE1 b ∨ F1 b))).less fun b z => .inl z)
    · simp only [if_neg c] at q
end
end Hap
namespace Hap
open PySem PySem.Spec PyProof.Rows L2
variable [TabC]
section
variable {K : PySem.W.Frag} {P : AS} {H : Hp} {FE : FP} {ρ : Ev} {σ : L2.St}
theorem slot_write {i : Nat} {p : Addr} {o u0 : HO} {d' : D} {F1 : AS} (S : Stt K P H ρ σ FE) (he : H p = some u0) (nd : Nd u0) (hv : σ[i]? = some (some (.ref p))) (hp : FE i p) (own : ∀ b, F1 b → H b ≠ none ∧ ¬ P b ∧ ¬ U FE b)
    (r : Rl true K P (upd H p o) d' (.ref p) (fun b => FE i b ∨ F1 b)) (no : Nd o := by constructor) :
    Stt K P (upd H p o) (ρ.set i (some d')) σ (fun j b => FE j b ∨ (j = i ∧ F1 b)) ∧ Tr P H (fun b => U FE b ∨ F1 b) P (upd H p o) (U fun j b => FE j b ∨ (j = i ∧ F1 b)) := by
  have nP : ¬ P p := (S.fin i p hp).2
  have al : ∀ b, H b ≠ none → upd H p o b ≠ none := fun b h => by
    by_cases e : b = p
    · subst e; rw [upd_same]; simp
    · rw [upd_ne e]; exact h
  refine ⟨⟨fun b q => al b (S.pin b q), fun j b q => ?_, fun j k b q w => ?_, fun j d e => ?_, by simpa using S.len, tabs_write S.tab he nd no⟩, ⟨fun b u e n nt => ?_, fun _ q => q, fun _ q => .inl q, fun b q => ?_, al⟩⟩
  · rcases q with q | q
    · exact ⟨al b (S.fin j b q).1, (S.fin j b q).2⟩
    · exact ⟨al b (own b q.2).1, (own b q.2).2.1⟩
  · rcases q with q | q <;> rcases w with w | w
    · exact S.dj j k b q w
    · exact ((own b w.2).2.2 ⟨j, q⟩).elim
    · exact ((own b q.2).2.2 ⟨k, w⟩).elim
    · exact q.1.trans w.1.symm
  · by_cases h : j = i
    · subst h
      have hl : j < ρ.length := by
        have := (List.getElem?_eq_some_iff.mp e).1
        simpa using this
      rw [List.getElem?_set_self hl] at e
      cases e
      exact ⟨_, hv, rl_mono r (fun _ q => q) (fun _ _ e _ _ => e) fun b q => q.imp id fun w => ⟨rfl, w⟩⟩
    · rw [List.getElem?_set_ne (Ne.symm h)] at e
      obtain ⟨v, e1, r1⟩ := S.rel j d e
      refine ⟨v, e1, rl_mono r1 (fun _ q => q) (fun b u e q _ => ?_) fun b q => .inl q⟩
      rw [upd_ne]
      · exact e
      · intro z; subst z
        exact (q rfl).elim nP fun w => h (S.dj _ _ _ w hp)
  · rw [upd_ne]
    · exact e
    · intro z; subst z; exact n (.inl ⟨i, hp⟩)
  · obtain ⟨j, q | q⟩ := q
    · exact .inl (.inl ⟨j, q⟩)
    · exact .inl (.inr q.2)
/-- what stands at a slot that is a list, a dict of one's own -/
theorem slot_lst {i : Nat} {xs : List D} (S : Stt K P H ρ σ FE) (e : ρ[i]? = some (some (.lst true xs))) : ∃ p vs F', σ[i]? = some (some (.ref p)) ∧ H p = some (.lst vs) ∧ FE i p ∧ (∀ b, F' b → FE i b ∧ b ≠ p) ∧ Rls true K P H xs vs F' := by
  obtain ⟨v, ev, r⟩ := S.rel i _ e
  cases r with
  | lstO h f s rs => exact ⟨_, _, _, ev, h, f rfl, s, rs⟩
theorem slot_dct {i : Nat} {ks : List Key} {xs : List D} (S : Stt K P H ρ σ FE) (e : ρ[i]? = some (some (.dct true ks xs))) : ∃ p vs F', σ[i]? = some (some (.ref p)) ∧ H p = some (.dK (ks.zip vs)) ∧ ks.length = vs.length ∧ FE i p ∧ (∀ b, F' b → FE i b ∧ b ≠ p) ∧ Rls true K P H xs vs F' := by
  obtain ⟨v, ev, r⟩ := S.rel i _ e
  cases r with
  | dctO h k l f s rs => subst k; exact ⟨_, _, _, ev, h, l, f rfl, s, rs⟩
theorem slot_dcT {i : Nat} {ks : List (List Key)} {xs : List D} (S : Stt K P H ρ σ FE) (e : ρ[i]? = some (some (.dcT true ks xs))) : ∃ p vs F', σ[i]? = some (some (.ref p)) ∧ H p = some (.dT (ks.zip vs)) ∧ ks.length = vs.length ∧ FE i p ∧ (∀ b, F' b → FE i b ∧ b ≠ p) ∧ Rls true K P H xs vs F' := by
  obtain ⟨v, ev, r⟩ := S.rel i _ e
  cases r with
  | dcTO h k l f s rs => subst k; exact ⟨_, _, _, ev, h, l, f rfl, s, rs⟩
omit [TabC] in
/-- the items stay while the list's own object is written -/
theorem rls_upd {p : Addr} {o : HO} {ds : List D} {vs : List V} {F' : AS} (rs : Rls true K P H ds vs F') (nP : ¬ P p) (nF : ¬ F' p) : Rls true K P (upd H p o) ds vs F' :=
  rls_mono rs (fun _ q => q) (fun b u e q _ => by
    rw [upd_ne]
    · exact e
    · intro z; subst z; exact (q rfl).elim nP nF) fun _ q => q
omit [TabC] in
theorem rl_upd {p : Addr} {o : HO} {d : D} {v : V} {F' : AS} (rs : Rl true K P H d v F') (nP : ¬ P p) (nF : ¬ F' p) : Rl true K P (upd H p o) d v F' :=
  rl_mono rs (fun _ q => q) (fun b u e q _ => by
    rw [upd_ne]
    · exact e
    · intro z; subst z; exact (q rfl).elim nP nF) fun _ q => q
omit [TabC] in
theorem rls_set {z : Bool} {d : D} {v : V} {F1 : AS} : ∀ {ds : List D} {vs : List V} {F F2 : AS} (j : Nat), Rls z K P H ds vs F2 → Rl z K P H d v F1 → (∀ b, F2 b → F b) → (∀ b, F1 b → F b) → (∀ b, F1 b → F2 b → False) → Rls z K P H (ds.set j d) (vs.set j v) F
  | _, _, _, _, _, .nil, _, _, _, _ => .nil
  | _, _, F, F2, 0, .cons (F1 := G1) (F2 := G2) r rs s1 s2 dj, q, t2, t1, dd => .cons (F1 := F1) (F2 := G2) q rs t1 (fun b z => t2 b (s2 b z)) fun b z w => dd b z (s2 b w)
  | _, _, F, F2, j + 1, .cons (F1 := G1) (F2 := G2) r rs s1 s2 dj, q, t2, t1, dd =>
    .cons (F1 := G1) (F2 := fun b => G2 b ∨ F1 b) r (rls_set j rs q (fun _ z => .inl z) (fun _ z => .inr z) fun b z w => dd b z (s2 b w)) (fun b z => t2 b (s1 b z)) (fun b z => z.elim (fun z => t2 b (s2 b z)) (t1 b)) fun b z w => w.elim (dj b z) fun w => dd b w (s1 b z)
end
def fAppend (i : Nat) (f : Ev → R (List D)) : Ev → RS := fun ρ => match ρ[i]? with
  | some (some (.lst _ _)) => RS.of (f ρ) fun ds ρ1 => (match ds with
    | [d] => (match ρ1[i]? with
      | some (some (.lst true xs)) => if xs.length < sizeLine then .nx (ρ1.set i (some (.lst true (xs ++ [d])))) else .stk
      | _ => .stk)
    | _ => .stk)
  | _ => .stk
def fSetL (i : Nat) (f k : Ev → R D) : Ev → RS := fun ρ => RS.of (f ρ) fun d ρ1 => match ρ1[i]? with
  | some (some _) => RS.of (k ρ1) fun e ρ2 => (match e with
    | .int n => (match ρ2[i]? with
      | some (some (.lst true xs)) => (match ixN xs.length n with
        | some j => .nx (ρ2.set i (some (.lst true (xs.set j d))))
        | none => .stk)
      | _ => .stk)
    | _ => .stk)
  | _ => .stk
def fAug (i : Nat) (g : D → D → Option D) (f : Ev → R D) : Ev → RS := fun ρ => match ρ[i]? with
  | some (some d0) => if isImm d0 = true then RS.of (f ρ) fun d ρ1 => (match g d0 d with
    | some x => .nx (ρ1.set i (some x))
    | none => .stk) else .stk
  | _ => .stk
section
variable {X : Cx} {RX : RXR} {W : WX} {kp : List Nat}
theorem ds_append {s : Stmt} {i : Nat} {f : Ev → R (List D)} (h : PS X s (tDrop (tBM X.K "list" rAppend (tVar i) (tA X.K RX W f)))) : DS X RX W kp s (fAppend i f) := by
  refine ps_imp h fun D σ H q => ?_
  obtain ⟨P, ρ, FE, S, q⟩ := q
  unfold fAppend at q
  split at q
  · rename_i o xs e0
    obtain ⟨v, ev, r⟩ := S.rel i _ e0
    obtain ⟨p, vs, rfl, e, rs⟩ := lst_read r
    refine ⟨.ref p, ev, .inl ⟨rfl, vs, .inl (.inl e)⟩, P, ρ, FE, S, ?_⟩
    cases e1 : f ρ with
    | exc x ρ1 => simp only [e1, RS.of] at q; exact fun cls dx P' H' FE' S' t r => q cls dx σ P' H' FE' S' t Kp.refl r
    | stk => simp only [e1, RS.of] at q; exact q.elim
    | ok ds ρ1 =>
      simp only [e1, RS.of] at q
      intro ws P1 H1 FE1 F1 S1 T1 t1
      split at q
      · rename_i d
        split at q
        · rename_i ys e2
          split at q
          · rename_i hl
            obtain ⟨p', vs', F', ev', h1, h2, h3, h4⟩ := slot_lst S1 e2
            rw [ev] at ev'; cases ev'
            obtain ⟨w, rfl, rw'⟩ := rls1 T1.rl
            have nP := (S1.fin i p h2).2
            have nF1 : ¬ F1 p := fun z => (T1.own p z).2.2 ⟨i, h2⟩
            have nF' : ¬ F' p := fun z => (h3 p z).2 rfl
            obtain ⟨S2, t2⟩ := slot_write (o := .lst (vs' ++ [w])) (d' := .lst true (ys ++ [d])) S1 h1 .lst ev h2 T1.own (.lstO (F' := fun b => F' b ∨ F1 b) upd_same (fun _ => .inl h2) (fun b z => z.elim (fun z => ⟨.inl (h3 b z).1, (h3 b z).2⟩) fun z => ⟨.inr z, fun w => nF1 (by rw [← w]; exact z)⟩)
              (rls_snoc (rls_upd h4 nP nF') (rl_upd rw' nP nF1) (fun _ z => .inl z) (fun _ z => .inr z) fun b z w => (T1.own b w).2.2 ⟨i, (h3 b z).1⟩))
            exact ⟨p, vs', w, rfl, rfl, h1, by rw [← rls_len h4]; exact hl, q σ P1 _ _ S2 (t1.trans t2) Kp.refl⟩
          · exact q.elim
        · exact q.elim
      · exact q.elim
  · exact q.elim
theorem ds_setL {s : Stmt} {i : Nat} {f k : Ev → R D} (h : PS X s (tAsg (tE X.K RX W f) (L2.gSub (tVar i) (tE X.K RX W k) rSetL))) : DS X RX W kp s (fSetL i f k) := by
  refine ps_imp h fun D σ H q => ?_
  obtain ⟨P, ρ, FE, S, q⟩ := q
  refine ⟨P, ρ, FE, S, ?_⟩
  unfold fSetL at q
  cases e : f ρ with
  | exc x ρ1 => simp only [e, RS.of] at q; exact fun cls dx P' H' FE' S' t r => q cls dx σ P' H' FE' S' t Kp.refl r
  | stk => simp only [e, RS.of] at q; exact q.elim
  | ok d ρ1 =>
    simp only [e, RS.of] at q
    intro v P1 H1 FE1 F1 S1 T1 t1
    split at q
    · rename_i d0 e0
      obtain ⟨vp, ev, _⟩ := S1.rel i _ e0
      refine ⟨vp, ev, P1, ρ1, FE1, S1, ?_⟩
      cases e1 : k ρ1 with
      | exc x ρ2 => simp only [e1] at q; exact fun cls dx P' H' FE' S' t r => q cls dx σ P' H' FE' S' (t1.less'.trans t) Kp.refl r
      | stk => simp only [e1] at q; exact q.elim
      | ok ee ρ2 =>
        simp only [e1] at q
        intro w P2 H2 FE2 F2 S2 T2 t2
        split at q
        · rename_i n
          split at q
          · rename_i xs e3
            split at q
            · rename_i j ej
              obtain ⟨p, vs, F', ev', h1, h2, h3, h4⟩ := slot_lst S2 e3
              rw [ev] at ev'; cases ev'
              obtain ⟨T1', _⟩ := T1.step S1 t2
              have nP := (S2.fin i p h2).2
              have nF1 : ¬ F1 p := fun z => (T1'.own p z).2.2 ⟨i, h2⟩
              have nF' : ¬ F' p := fun z => (h3 p z).2 rfl
              obtain ⟨S3, t3⟩ := slot_write (o := .lst (vs.set j v)) (d' := .lst true (xs.set j d)) S2 h1 .lst ev h2 T1'.own (.lstO (F' := fun b => F' b ∨ F1 b) upd_same (fun _ => .inl h2) (fun b z => z.elim (fun z => ⟨.inl (h3 b z).1, (h3 b z).2⟩) fun z => ⟨.inr z, fun w => nF1 (by rw [← w]; exact z)⟩)
                (rls_set j (rls_upd h4 nP nF') (rl_upd T1'.rl nP nF1) (fun _ z => .inl z) (fun _ z => .inr z) fun b z w => (T1'.own b z).2.2 ⟨i, (h3 b w).1⟩))
              rw [rl_int T2.rl]
              refine ⟨p, vs, n, j, rfl, rfl, h1, by rw [← rls_len h4]; exact ej, q σ P2 _ _ S3 ((t1.seq t2.less').trans ?_) Kp.refl⟩
              exact t3
            · exact q.elim
          · exact q.elim
        · exact q.elim
    · exact q.elim
theorem ds_aug {s : Stmt} {i : Nat} {f : Ev → R D} {ti : TIp} {g : D → D → Option D} (hv : VOp2 X.K ti g) (h : PS X s (tAug i (tE X.K RX W f) ti)) (hk : i ∉ kp) : DS X RX W kp s (fAug i g f) := by
  refine ps_imp h fun D σ H q => ?_
  obtain ⟨P, ρ, FE, S, q⟩ := q
  unfold fAug at q
  split at q
  · rename_i d0 e0
    split at q
    · rename_i im
      obtain ⟨v0, ev, r0⟩ := S.rel i _ e0
      refine ⟨v0, ev, P, ρ, FE, S, ?_⟩
      cases e1 : f ρ with
      | exc x ρ1 => simp only [e1, RS.of] at q; exact fun cls dx P' H' FE' S' t r => q cls dx σ P' H' FE' S' t Kp.refl r
      | stk => simp only [e1, RS.of] at q; exact q.elim
      | ok d ρ1 =>
        simp only [e1, RS.of] at q
        intro w P1 H1 FE1 F1 S1 T1 t1
        have T0 : Tmp X.K P H FE d0 v0 E_ := ⟨rl_imm r0 im, fun b z => z.elim⟩
        have T0' := (T0.step S t1).1
        cases e2 : g d0 d with
        | none => simp only [e2] at q; exact q.elim
        | some x =>
          simp only [e2] at q
          refine hv P1 H1 d0 d v0 w x _ S1.pin (rl_view T0'.rl) (rl_view T1.rl) e2 fun u P2 H2 F2 n r => ?_
          have S2 := n.stt S1
          exact q (σ.set i (some u)) P2 H2 _ (S2.set (n.tmp S1 r) i) ((t1.less'.trans n.tr).less fun b z => Stt.set_sub i b z) (Kp.set hk)
    · exact q.elim
  · exact q.elim
end
end Hap
namespace Hap
open PySem PySem.Spec PyProof.Rows L2
variable [TabC]
def fChain (g g' : D → D → Option D) (fa fb fc : Ev → R D) : Ev → R D := fun ρ => (fa ρ).bind fun a ρ1 => (fb ρ1).bind fun b ρ2 => match g a b with
  | some (.bl k) => if k = true then (fc ρ2).bind fun c ρ3 => R.of (g' b c) ρ3 else .ok (.bl false) ρ2
  | _ => .stk
section
variable {K : PySem.W.Frag} {RX : RXR} {W : WX} {σ : L2.St} {H : Hp}
theorem e_chain {r r' : R2} {g g' : D → D → Option D} {fa fb fc : Ev → R D} (hv : VOp2 K r g) (hv' : VOp2 K r' g') {Q : VK} (q : tE K RX W (fChain g g' fa fb fc) σ H Q) : tChain r r' (tE K RX W fa) (tE K RX W fb) (tE K RX W fc) σ H Q := by
  obtain ⟨P, ρ, FE, S, q⟩ := q
  refine ⟨P, ρ, FE, S, ?_⟩
  unfold fChain at q
  cases e : fa ρ with
  | exc x ρ1 => simp only [e, R.bind] at q; exact q
  | stk => simp only [e, R.bind] at q
  | ok a ρ1 =>
    simp only [e, R.bind] at q
    intro va P1 H1 FE1 F1 S1 T1 t1
    refine ⟨P1, ρ1, FE1, S1, ?_⟩
    cases e1 : fb ρ1 with
    | exc x ρ2 => simp only [e1] at q; exact fun cls dx P2 H2 FE2 S2 t2 r => q cls dx P2 H2 FE2 S2 (t1.less'.trans t2) r
    | stk => simp only [e1] at q
    | ok b ρ2 =>
      simp only [e1] at q
      intro vb P2 H2 FE2 F2 S2 T2 t2
      have T1' := (T1.step S1 t2).1
      cases e2 : g a b with
      | none => simp only [e2] at q
      | some x =>
        cases x with
        | bl k =>
          simp only [e2] at q
          refine hv P2 H2 a b va vb _ _ S2.pin (rl_view T1'.rl) (rl_view T2.rl) e2 fun u P3 H3 F3 n3 r3 => ?_
          have S3 := n3.stt S2
          have t3 : Tr P H (U FE) P3 H3 (U FE2) := (t1.less'.trans t2.less').trans n3.tr.less'
          refine ⟨k, rl_bl r3, ?_⟩
          cases k with
          | false =>
            simp only [if_neg Bool.false_ne_true] at q ⊢
            exact q _ P3 H3 FE2 E_ S3 ⟨.bl, fun b z => z.elim⟩ (t3.less fun b z => z.elim id False.elim)
          | true =>
            simp only [if_pos] at q ⊢
            refine ⟨P3, ρ2, FE2, S3, ?_⟩
            cases e3 : fc ρ2 with
            | exc x ρ4 => simp only [e3] at q; exact fun cls dx P4 H4 FE4 S4 t4 r => q cls dx P4 H4 FE4 S4 (t3.trans t4) r
            | stk => simp only [e3] at q
            | ok c ρ4 =>
              simp only [e3] at q
              intro vc P4 H4 FE4 F4 S4 T4 t4
              have t24 : Tr P2 H2 (U FE2) P4 H4 (fun b => U FE4 b ∨ F4 b) := n3.tr.less'.trans t4
              have T2' := (T2.step S2 t24).1
              cases e4 : g' b c with
              | none => simp only [e4, R.of] at q
              | some x =>
                simp only [e4, R.of] at q
                exact hv' P4 H4 b c vb vc x Q S4.pin (rl_view T2'.rl) (rl_view T4.rl) e4 fun u P5 H5 F5 n r => q u P5 H5 FE4 F5 (n.stt S4) (n.tmp S4 r) ((t3.trans t4.less').trans n.tr)
        | _ => simp only [e2] at q
end
section
variable {X : Cx} {RX : RXR} {W : WX} {kp : List Nat} {a b c : Expr} {pos : Pos}
theorem dt_chain {op op' : CmpOp} {r r' : R2} {g g' : D → D → Option D} {fa fb fc : Ev → R D} (ho : OpR X (compareOp op) r) (hv : VOp2 X.K r g) (ho' : OpR X (compareOp op') r') (hv' : VOp2 X.K r' g') (ha : DE X RX W a fa) (hb : DE X RX W b fb) (hc : DE X RX W c fc)
    (hm : lastMarks [op, op'] [b, c] = false := by with_unfolding_all rfl) : DT X RX W (.Compare a [op, op'] [b, c] pos) (fTb (fChain g g' fa fb fc)) :=
  pt_imp (pt_chain ho ho' ha hb hc hm) fun σ H Q q => e_chain hv hv' (t_val q)
def VMt (K : PySem.W.Frag) (T : String) (r : V → List V → Hp → VK → Prop) (g : D → List D → Option D) (ty : D → Bool) : Prop :=
  (∀ (P : AS) (H : Hp) (d : D) (v : V), Rl false K P H d v E_ → ty d = true → tyV K T v H) ∧
  ∀ (P : AS) (H : Hp) (d : D) (ds : List D) (v : V) (vs : List V) (x : D) (Q : VK), (∀ b, P b → H b ≠ none) → Rl false K P H d v E_ → Rls false K P H ds vs E_ → g d ds = some x → (∀ u P' H' F, New P H P' H' F → Rl true K P' H' x u F → Q u H') → r v vs H Q
def fMeth (ty : D → Bool) (g : D → List D → Option D) (fo : Ev → R D) (fa : Ev → R (List D)) : Ev → R D := fun ρ => (fo ρ).bind fun d ρ1 => if ty d = true then (fa ρ1).bind fun ds ρ2 => R.of (g d ds) ρ2 else .stk
theorem de_meth {e : Expr} {T : String} {r : V → List V → Hp → VK → Prop} {g : D → List D → Option D} {ty : D → Bool} {fo : Ev → R D} {fa : Ev → R (List D)} (hv : VMt X.K T r g ty) (h : PE X e (tBM X.K T r (tE X.K RX W fo) (tA X.K RX W fa))) : DE X RX W e (fMeth ty g fo fa) := by
  refine pe_imp h fun σ H Q q => ?_
  obtain ⟨P, ρ, FE, S, q⟩ := q
  refine ⟨P, ρ, FE, S, ?_⟩
  unfold fMeth at q
  cases e : fo ρ with
  | exc x ρ1 => simp only [e, R.bind] at q; exact q
  | stk => simp only [e, R.bind] at q
  | ok d ρ1 =>
    simp only [e, R.bind] at q
    intro v P1 H1 FE1 F1 S1 T1 t1
    by_cases c : ty d = true
    · simp only [if_pos c] at q
      refine ⟨hv.1 P1 H1 d v (rl_view T1.rl) c, P1, ρ1, FE1, S1, ?_⟩
      cases e1 : fa ρ1 with
      | exc x ρ2 => simp only [e1] at q; exact fun cls dx P2 H2 FE2 S2 t2 r => q cls dx P2 H2 FE2 S2 (t1.less'.trans t2) r
      | stk => simp only [e1] at q
      | ok ds ρ2 =>
        simp only [e1] at q
        intro vs P2 H2 FE2 F2 S2 T2 t2
        have T1' := (T1.step S1 t2).1
        cases e2 : g d ds with
        | none => simp only [e2, R.of] at q
        | some x =>
          simp only [e2, R.of] at q
          exact hv.2 P2 H2 d ds v vs x Q S2.pin (rl_view T1'.rl) (rls_view T2.rl) e2 fun u P3 H3 F3 n r => q u P3 H3 FE2 F3 (n.stt S2) (n.tmp S2 r) ((t1.less'.trans t2.less').trans n.tr)
    · simp only [if_neg c] at q
def isL (d : D) : Bool := match d with
  | .lst _ _ => true
  | .rol _ => true
  | _ => false
def idxP (z : PyData) : List PyData → Option Nat
  | [] => none
  | y :: ys => if PyData.eqv y z = true then some 0 else (idxP z ys).map (· + 1)
omit [TabC] in
theorem idxP_ok {z : PyData} : ∀ {ys : List PyData} {j : Nat}, idxP z ys = some j → ∃ y, ys[j]? = some y ∧ PyData.eqv y z = true ∧ ∀ (m : Nat) (z' : PyData), m < j → ys[m]? = some z' → PyData.eqv z' z = false
  | [], _, h => by simp [idxP] at h
  | y :: ys, j, h => by
    simp only [idxP] at h
    by_cases c : PyData.eqv y z = true
    · rw [if_pos c] at h; cases h
      exact ⟨y, rfl, c, fun m z' hm => absurd hm (Nat.not_lt_zero _)⟩
    · rw [if_neg c] at h
      cases e : idxP z ys with
      | none => rw [e] at h; cases h
      | some k =>
        rw [e] at h; cases h
        obtain ⟨y', h1, h2, h3⟩ := idxP_ok e
        refine ⟨y', by simpa using h1, h2, fun m z' hm hz => ?_⟩
        cases m with
        | zero => simp at hz; subst hz; simpa using c
        | succ m => exact h3 m z' (Nat.lt_of_succ_lt_succ hm) (by simpa using hz)
def gIndex (d : D) (ds : List D) : Option D := match ds with
  | [e] => (lstOf d).bind fun xs => if SeqAt.shaped (toPy e) = true ∧ SeqAt.shaped (.list (toPys xs)) = true then (idxP (toPy e) (toPys xs)).map fun (j : Nat) => .int (j : Int) else none
  | _ => none
theorem vIndex {K : PySem.W.Frag} : VMt K "list" (rIndexD K) gIndex isL := by
  refine ⟨fun P H d v r t => ?_, fun P H d ds v vs x Q pin r rs g h => ?_⟩
  · cases d with
    | lst o xs => obtain ⟨p, vs, rfl, e, _⟩ := lst_read r; exact .inl ⟨rfl, vs, .inl (.inl e)⟩
    | rol xs => obtain ⟨p, vs, rfl, e, _⟩ := rol_read r; exact .inl ⟨rfl, vs, e⟩
    | _ => cases t
  · unfold gIndex at g
    split at g
    · rename_i e
      obtain ⟨w, rfl, rw'⟩ := rls1 rs
      cases e1 : lstOf d with
      | none => rw [e1] at g; cases g
      | some xs =>
        simp only [e1, Option.bind] at g
        split at g
        · rename_i c
          cases e2 : idxP (toPy e) (toPys xs) with
          | none => rw [e2] at g; cases g
          | some j =>
            rw [e2] at g; cases g
            obtain ⟨p, ws, rfl, s, r2⟩ := lstOf_read r e1
            obtain ⟨y, h1, h2, h3⟩ := idxP_ok e2
            exact ⟨p, w, _, _, j, y, rfl, rfl, .lst s (dps_of r2 (by simpa only [PyData.canLay0] using shaped_lay c.2)), dp_of rw' (shaped_lay c.1), c.2, c.1, h1, h2, h3, h _ P H E_ New.refl .int⟩
        · cases g
    · cases g
/-- sep.join(texts) -/
def gJoin (d : D) (e : D) : Option D := match d with
  | .str a => (lstOf e).bind fun xs => (strsD xs).bind fun ys => if (ys.map (·.length)).sum + ys.length * a.length ≤ 16777216 then some (.str (Txt.join a ys)) else none
  | _ => none
def fJoin (fo fa : Ev → R D) : Ev → R D := fun ρ => (fo ρ).bind fun d ρ1 => match d with
  | .str _ => (fa ρ1).bind fun e ρ2 => R.of (gJoin d e) ρ2
  | _ => .stk
def tO (K : PySem.W.Frag) (RX : RXR) (W : WX) (f : Ev → R (Option Int)) : TO := fun σ H Q => ∃ P ρ FE, Stt K P H ρ σ FE ∧ match f ρ with
  | .ok i ρ' => ∀ P' H' FE', Stt K P' H' ρ' σ FE' → Tr P H (U FE) P' H' (U FE') → Q i H'
  | .exc x ρ' => ∀ cls dx P' H' FE', Stt K P' H' ρ' σ FE' → Tr P H (U FE) P' H' (U FE') → RX x P' H' cls dx → W cls dx σ H'
  | .stk => False
abbrev DO (X : Cx) (RX : RXR) (W : WX) (e : Option Expr) (f : Ev → R (Option Int)) : Prop := PO X e (tO X.K RX W f)
def fO (f : Ev → R D) : Ev → R (Option Int) := fun ρ => (f ρ).bind fun d ρ1 => match d with
  | .int i => .ok (some i) ρ1
  | _ => .stk
theorem do_none : DO X RX W none (fun ρ => .ok none ρ) := ⟨fun pins s σ H Q I ⟨P, ρ, FE, S, q⟩ => po_none.run pins s σ H Q I (q P H FE S Tr.refl)⟩
theorem do_some {e : Expr} {f : Ev → R D} (h : DE X RX W e f) : DO X RX W (some e) (fO f) := by
  refine ⟨fun pins s σ H Q I q => (po_some h).run pins s σ H Q I ?_⟩
  obtain ⟨P, ρ, FE, S, q⟩ := q
  refine ⟨P, ρ, FE, S, ?_⟩
  unfold fO at q
  cases e : f ρ with
  | exc x ρ1 => simp only [e, R.bind] at q; exact q
  | stk => simp only [e, R.bind] at q
  | ok d ρ1 =>
    simp only [e, R.bind] at q
    intro v P1 H1 FE1 F1 S1 T1 t1
    cases d with
    | int i => exact ⟨_, rl_int T1.rl, q P1 H1 FE1 S1 t1.less'⟩
    | _ => simp only at q
def cutD (xs : List D) (lo hi : Option Int) : List D := (xs.drop (HT.sIx xs.length 0 lo)).take (HT.sIx xs.length xs.length hi - HT.sIx xs.length 0 lo)
def gSl (d : D) (lo hi : Option Int) : Option D := match d with
  | .lst _ xs => if isImms xs = true then some (.lst true (cutD xs lo hi)) else none
  | .str z => if z.length ≤ sizeLine then some (.str (cutS z lo hi)) else none
  | .tup xs => if isImms xs = true ∧ ¬ (HT.sIx xs.length 0 lo = 0 ∧ HT.sIx xs.length xs.length hi = xs.length) then some (.tup (cutD xs lo hi)) else none
  | _ => none
def fSl (f : Ev → R D) (l u : Ev → R (Option Int)) : Ev → R D := fun ρ => (f ρ).bind fun d ρ1 => (l ρ1).bind fun lo ρ2 => (u ρ2).bind fun hi ρ3 => R.of (gSl d lo hi) ρ3
abbrev rSlU (K : PySem.W.Frag) : V → Option Int → Option Int → Hp → VK → Prop := fun x lo hi H Q => rSlL K x lo hi H Q ∨ rSlS x lo hi H Q ∨ rSlT K x lo hi H Q
omit [TabC] in
theorem sl_U : SlR X (rSlU X.K) := sl_list.or (sl_str.or sl_tup)
omit [TabC] in
theorem isImms_drop : ∀ {xs : List D} (n : Nat), isImms xs = true → isImms (xs.drop n) = true
  | xs, 0, h => by simpa using h
  | [], _ + 1, h => by simpa using h
  | _ :: _, n + 1, h => by
    simp only [isImms, Bool.and_eq_true] at h
    exact isImms_drop n h.2
omit [TabC] in
theorem isImms_take : ∀ {xs : List D} (n : Nat), isImms xs = true → isImms (xs.take n) = true
  | _, 0, h => by simp [isImms]
  | [], _ + 1, h => by simpa using h
  | _ :: _, n + 1, h => by
    simp only [isImms, Bool.and_eq_true, List.take_succ_cons] at h ⊢
    exact ⟨h.1, isImms_take n h.2⟩
omit [TabC] in
theorem rls_drop {K : PySem.W.Frag} {P : AS} {H : Hp} : ∀ {ds : List D} {vs : List V} (n : Nat), Rls false K P H ds vs E_ → Rls false K P H (ds.drop n) (vs.drop n) E_
  | _, _, 0, h => by simpa using h
  | _, _, _ + 1, .nil => by simpa using Rls.nil
  | _, _, n + 1, .cons r rs s1 s2 dj => rls_drop n (rls_view rs)
omit [TabC] in
theorem rls_take {K : PySem.W.Frag} {P : AS} {H : Hp} : ∀ {ds : List D} {vs : List V} (n : Nat), Rls false K P H ds vs E_ → Rls false K P H (ds.take n) (vs.take n) E_
  | _, _, 0, h => by simpa using Rls.nil
  | _, _, _ + 1, .nil => by simpa using Rls.nil
  | _, _, n + 1, .cons r rs s1 s2 dj => .cons (F1 := E_) (F2 := E_) (rl_view r) (rls_take n (rls_view rs)) (fun _ z => z) (fun _ z => z) fun _ z => z.elim
theorem cut_rls {K : PySem.W.Frag} {P : AS} {H : Hp} {xs : List D} {vs : List V} {lo hi : Option Int} (rs : Rls false K P H xs vs E_) : Rls false K P H (cutD xs lo hi) (cutV vs lo hi) E_ := by
  unfold cutD cutV
  rw [← rls_len rs]
  exact rls_take _ (rls_drop _ rs)
theorem de_slice {e : Expr} {lo hi : Option Expr} {p2 : Pos} {f : Ev → R D} {l u : Ev → R (Option Int)} (h : DE X RX W e f) (hl : DO X RX W lo l) (hu : DO X RX W hi u) : DE X RX W (.Subscript e (.Slice lo hi none p2) pos) (fSl f l u) := by
  refine pe_imp (pe_slice sl_U h hl hu) fun σ H Q q => ?_
  obtain ⟨P, ρ, FE, S, q⟩ := q
  refine ⟨P, ρ, FE, S, ?_⟩
  unfold fSl at q
  cases e : f ρ with
  | exc x ρ1 => simp only [e, R.bind] at q; exact q
  | stk => simp only [e, R.bind] at q
  | ok d ρ1 =>
    simp only [e, R.bind] at q
    intro v P1 H1 FE1 F1 S1 T1 t1
    refine ⟨P1, ρ1, FE1, S1, ?_⟩
    cases e1 : l ρ1 with
    | exc x ρ2 => simp only [e1] at q; exact fun cls dx P2 H2 FE2 S2 t2 r => q cls dx P2 H2 FE2 S2 (t1.less'.trans t2) r
    | stk => simp only [e1] at q
    | ok lo ρ2 =>
      simp only [e1] at q
      intro P2 H2 FE2 S2 t2
      have T2 := (T1.step (F := E_) S1 (t2.less fun b z => z.elim id False.elim)).1
      refine ⟨P2, ρ2, FE2, S2, ?_⟩
      cases e2 : u ρ2 with
      | exc x ρ3 => simp only [e2] at q; exact fun cls dx P3 H3 FE3 S3 t3 r => q cls dx P3 H3 FE3 S3 ((t1.less'.trans t2).trans t3) r
      | stk => simp only [e2] at q
      | ok hi ρ3 =>
        simp only [e2] at q
        intro P3 H3 FE3 S3 t3
        have T3 := (T2.step (F := E_) S2 (t3.less fun b z => z.elim id False.elim)).1
        have tt := (t1.less'.trans t2).trans t3
        have rv := rl_view (F' := E_) T3.rl
        cases e3 : gSl d lo hi with
        | none => simp only [e3, R.of] at q
        | some x =>
          simp only [e3, R.of] at q
          have fin : ∀ u P' H' F, New P3 H3 P' H' F → Rl true X.K P' H' x u F → Q u H' := fun u P' H' F n r => q u P' H' FE3 F (n.stt S3) (n.tmp S3 r) (tt.trans n.tr)
          unfold gSl at e3
          split at e3
          · split at e3
            · rename_i i
              cases e3
              obtain ⟨p, vs, rfl, e, rs⟩ := lst_read rv
              refine .inl ⟨p, vs, rfl, .inl (.inl e), fun a ha => ?_⟩
              obtain ⟨n, r⟩ := new_lst ha S3.pin (isImms_take _ (isImms_drop _ i)) (cut_rls rs)
              exact fin _ _ _ _ n r
            · cases e3
          · split at e3
            · rename_i c
              cases e3
              rw [rl_str T3.rl]
              exact .inr (.inl ⟨_, rfl, c, fin _ P3 H3 E_ New.refl .str⟩)
            · cases e3
          · split at e3
            · rename_i c
              cases e3
              obtain ⟨p, vs, rfl, e, _, rs⟩ := tup_read rv
              refine .inr (.inr ⟨p, vs, rfl, .inl (.inl e), by rw [← rls_len rs]; exact c.2, fun a ha => ?_⟩)
              obtain ⟨n, r⟩ := new_tup ha (isImms_take _ (isImms_drop _ c.1)) (cut_rls rs)
              exact fin _ _ _ _ n r
            · cases e3
          · cases e3
end
end Hap
namespace Hap
open PySem PySem.Spec PyProof.Rows L2
variable [TabC]
def fK (d : D) : Ev → R D := fun ρ => .ok d ρ
def vK (d : D) : Ev → Option D := fun _ => some d
def fO0 : Ev → R (Option Int) := fun ρ => .ok none ρ
def fYes : Ev → R Bool := fun ρ => .ok true ρ
def vLst (f : Ev → Option (List D)) : Ev → Option D := fun ρ => (f ρ).bind fun ds => if ds.length ≤ sizeLine then some (.lst true ds) else none
def vTup (f : Ev → Option (List D)) : Ev → Option D := fun ρ => (f ρ).bind fun ds => if ds.length ≤ sizeLine then some (.tup ds) else none
/-- taken out of its slot (what is no one's own stays there, too) -/
def takeS (i : Nat) (ρ : Ev) : R D := match ρ[i]? with
  | some (some d) => .ok d (if isImm d = true then ρ else ρ.set i none)
  | _ => .stk
def fMv (i : Nat) : Ev → R D := takeS i
def fConsL (i : Nat) (g : Ev → R (List D)) : Ev → R (List D) := fun ρ => match ρ[i]? with
  | some (some _) => (g ρ).bind fun ds ρ2 => (takeS i ρ2).bind fun d ρ3 => .ok (d :: ds) ρ3
  | _ => .stk
/-- the left operand a name, looked at behind the right one -/
def fOp2L (g : D → D → Option D) (i : Nat) (k : Ev → R D) : Ev → R D := fun ρ => match ρ[i]? with
  | some (some _) => (k ρ).bind fun e ρ1 => (match ρ1[i]? with
    | some (some d) => R.of (g d e) ρ1
    | _ => .stk)
  | _ => .stk
section
variable {K : PySem.W.Frag} {P : AS} {H : Hp} {FE : FP} {ρ : Ev} {σ : L2.St}
theorem Stt.take {i : Nat} {d : D} (S : Stt K P H ρ σ FE) (e : ρ[i]? = some (some d)) (hi : isImm d = false) : Stt K P H (ρ.set i none) σ (fun j b => j ≠ i ∧ FE j b) ∧
    ∃ v, σ[i]? = some (some v) ∧ Tmp K P H (fun j b => j ≠ i ∧ FE j b) d v (FE i) := by
  obtain ⟨v, ev, r⟩ := S.rel i d e
  refine ⟨⟨S.pin, fun j b q => S.fin j b q.2, fun j k b q w => S.dj j k b q.2 w.2, fun j d' e' => ?_, by simpa using S.len, S.tab⟩, v, ev, r, fun b q => ⟨(S.fin i b q).1, (S.fin i b q).2, fun ⟨j, w⟩ => w.1 (S.dj j i b w.2 q)⟩⟩
  by_cases hj : j = i
  · subst hj
    have hl : j < ρ.length := (List.getElem?_eq_some_iff.mp e).1
    rw [List.getElem?_set_self hl] at e'
    cases e'
  · rw [List.getElem?_set_ne (Ne.symm hj)] at e'
    obtain ⟨w, e1, r1⟩ := S.rel j d' e'
    exact ⟨w, e1, rl_mono r1 (fun _ q => q) (fun _ _ e _ _ => e) fun b q => ⟨hj, q⟩⟩
/-- a slot's thing is taken -/
theorem takeS_ok {i : Nat} {d : D} {ρ1 : Ev} (S : Stt K P H ρ σ FE) (e : takeS i ρ = .ok d ρ1) : ∃ v FE' F, σ[i]? = some (some v) ∧ Stt K P H ρ1 σ FE' ∧ Tmp K P H FE' d v F ∧ (∀ b, U FE' b ∨ F b → U FE b) := by
  unfold takeS at e
  split at e
  · rename_i d' e0
    cases e
    by_cases hi : isImm d = true
    · rw [if_pos hi]
      obtain ⟨v, ev, r⟩ := S.rel i d e0
      exact ⟨v, FE, E_, ev, S, ⟨rl_imm r hi, fun b z => z.elim⟩, fun b z => z.elim id False.elim⟩
    · rw [if_neg hi]
      obtain ⟨S2, v, ev, T⟩ := S.take e0 (by simpa using hi)
      exact ⟨v, _, FE i, ev, S2, T, fun b z => z.elim (fun ⟨j, w⟩ => ⟨j, w.2⟩) fun w => ⟨i, w⟩⟩
  · cases e
end
section
variable {X : Cx} {RX : RXR} {W : WX} {e : Expr} {es : List Expr} {pos : Pos}
theorem de_k {v : V} {d : D} (h : PE X e (tC v)) (r : ∀ P H, Rl true X.K P H d v E_) : DE X RX W e (fK d) := de_con h r
theorem dv_k {v : V} {d : D} (h : PE X e (tC v)) (r : ∀ P H, Rl true X.K P H d v E_) : DV X e (vK d) := dv_con h r
theorem do_0 : DO X RX W none fO0 := do_none
theorem dts_0 : PTs X [] (tT X.K RX W fYes) := dts_nil
theorem dv_lst {f : Ev → Option (List D)} (h : DAV X es f) : DV X (.List es pos) (vLst f) := by
  refine pe_imp (pe_lst h) fun σ H Q q => ?_
  obtain ⟨P, ρ, FE, S, q⟩ := q
  refine ⟨P, ρ, FE, S, ?_⟩
  unfold vLst at q
  cases e : f ρ with
  | none => simp only [e, Option.bind] at q
  | some ds =>
    simp only [e, Option.bind] at q
    intro vs P1 H1 n1 r1
    by_cases c : ds.length ≤ sizeLine
    · simp only [if_pos c] at q
      refine ⟨by rw [← rls_len r1]; exact c, fun a ha => ?_⟩
      have n : New P1 H1 P1 (upd H1 a (.lst vs)) (fun b => b = a) := New.lst ha (n1.stt S).pin
      exact q (.ref a) P1 _ (n1.trans_ n.less_) (.lstO (F' := E_) upd_same (fun z => by cases z) (fun b z => z.elim) (rls_mono r1 (fun _ q => q) (fun b o e _ => n.same b o e) fun _ q => q))
    · simp only [if_neg c] at q
theorem dv_tup {f : Ev → Option (List D)} {x1} (h : DAV X es f) : DV X (.Tuple es x1 pos) (vTup f) := by
  refine pe_imp (pe_tup h) fun σ H Q q => ?_
  obtain ⟨P, ρ, FE, S, q⟩ := q
  refine ⟨P, ρ, FE, S, ?_⟩
  unfold vTup at q
  cases e : f ρ with
  | none => simp only [e, Option.bind] at q
  | some ds =>
    simp only [e, Option.bind] at q
    intro vs P1 H1 n1 r1
    by_cases c : ds.length ≤ sizeLine
    · simp only [if_pos c] at q
      refine ⟨by rw [← rls_len r1]; exact c, fun a ha => ?_⟩
      have n : New P1 H1 (fun b => P1 b ∨ b = a) (upd H1 a (.tup vs)) E_ := New.tup ha
      exact q (.ref a) _ _ (n1.trans_ n) (.tup upd_same (.inr rfl) (rls_mono r1 (fun _ q => .inl q) (fun b o e _ => n.same b o e) fun _ q => q))
    · simp only [if_neg c] at q
theorem de_mv {i : Nat} (h : PE X e (tVar i)) : DE X RX W e (fMv i) := by
  refine pe_imp h fun σ H Q q => ?_
  obtain ⟨P, ρ, FE, S, q⟩ := q
  unfold fMv at q
  cases e : takeS i ρ with
  | exc x ρ1 => simp only [takeS] at e; split at e <;> cases e
  | stk => simp only [e] at q
  | ok d ρ1 =>
    simp only [e] at q
    obtain ⟨v, FE', F, ev, S', T, hU⟩ := takeS_ok S e
    exact ⟨v, ev, q v P H FE' F S' T (Tr.refl.less hU)⟩
theorem da_consL {i : Nat} {g : Ev → R (List D)} (h : PE X e (tVar i)) (t : DA X RX W es g) (hs : starEach (e :: es) X.env = (false, eval e X.env) :: starEach es X.env := by rfl) : DA X RX W (e :: es) (fConsL i g) := by
  refine pa_imp (pa_cons h t hs) fun σ H Q q => ?_
  obtain ⟨P, ρ, FE, S, q⟩ := q
  unfold fConsL at q
  cases e0 : ρ[i]? with
  | none => simp only [e0] at q
  | some o =>
    cases o with
    | none => simp only [e0] at q
    | some d0 =>
      simp only [e0] at q
      obtain ⟨v, ev, _⟩ := S.rel i d0 e0
      refine ⟨v, ev, P, ρ, FE, S, ?_⟩
      cases e1 : g ρ with
      | exc x ρ1 => simp only [e1, R.bind] at q; exact q
      | stk => simp only [e1, R.bind] at q
      | ok ds ρ2 =>
        simp only [e1, R.bind] at q
        intro vs P2 H2 FE2 F2 S2 T2 t2
        cases e2 : takeS i ρ2 with
        | exc x ρ1 => simp only [takeS] at e2; split at e2 <;> cases e2
        | stk => simp only [e2] at q
        | ok d ρ3 =>
          simp only [e2] at q
          obtain ⟨v', FE', F, ev', S', T, hU⟩ := takeS_ok S2 e2
          rw [ev] at ev'; cases ev'
          refine q (v :: vs) P2 H2 FE' (fun b => F b ∨ F2 b) S' ⟨.cons T.rl T2.rl (fun b z => .inl z) (fun b z => .inr z) (fun b z w => (T2.own b w).2.2 (hU b (.inr z))), fun b z => z.elim (T.own b) fun z => ⟨(T2.own b z).1, (T2.own b z).2.1, fun w => (T2.own b z).2.2 (hU b (.inl w))⟩⟩ (t2.less fun b z => ?_)
          rcases z with z | z | z
          · exact .inl (hU b (.inl z))
          · exact .inl (hU b (.inr z))
          · exact .inr z
theorem e_op2L {K : PySem.W.Frag} {r : R2} {g : D → D → Option D} {i : Nat} {k : Ev → R D} (hv : VOp2 K r g) {σ : L2.St} {H : Hp} {Q : VK} (h : tE K RX W (fOp2L g i k) σ H Q) : tVar i σ H (fun v H1 => tE K RX W k σ H1 fun w H2 => r v w H2 Q) := by
  obtain ⟨P, ρ, FE, S, h⟩ := h
  unfold fOp2L at h
  cases e0 : ρ[i]? with
  | none => simp only [e0] at h
  | some o =>
    cases o with
    | none => simp only [e0] at h
    | some d0 =>
      simp only [e0] at h
      obtain ⟨v, ev, _⟩ := S.rel i d0 e0
      refine ⟨v, ev, P, ρ, FE, S, ?_⟩
      cases e1 : k ρ with
      | exc x ρ1 => simp only [e1, R.bind] at h; exact h
      | stk => simp only [e1, R.bind] at h
      | ok d' ρ1 =>
        simp only [e1, R.bind] at h
        intro w P1 H1 FE1 F1 S1 T1 t1
        cases e2 : ρ1[i]? with
        | none => simp only [e2] at h
        | some o =>
          cases o with
          | none => simp only [e2] at h
          | some d =>
            simp only [e2] at h
            obtain ⟨v', ev', r⟩ := S1.rel i d e2
            rw [ev] at ev'; cases ev'
            cases e3 : g d d' with
            | none => simp only [e3, R.of] at h
            | some x =>
              simp only [e3, R.of] at h
              exact hv P1 H1 d d' v w x Q S1.pin (rl_view r) (rl_view T1.rl) e3 fun u P2 H2 F2 n r => h u P2 H2 FE1 F2 (n.stt S1) (n.tmp S1 r) (t1.less'.trans n.tr)
variable {a b : Expr}
theorem de_cmpL {op : CmpOp} {r : R2} {g : D → D → Option D} {i : Nat} {k : Ev → R D} (ho : OpR X (compareOp op) r) (hv : VOp2 X.K r g) (ha : PE X a (tVar i)) (hb : DE X RX W b k) (hm : behindInMarks op b = false) : DE X RX W (.Compare a [op] [b] pos) (fOp2L g i k) :=
  pe_imp (pe_cmpR ho ha hb hm) fun σ H Q q => e_op2L hv q
end
section
variable {X : Cx} {x : Str} {pos : Pos}
omit [TabC] in
theorem pe_globS {t : Str} (hg : Gl X x) (h : ∃ k, X.mg x = some (.str t k)) (hd : (x == ("__debug__" : Str)) = false := by decide) : PE X (.Name x pos) (tC (.str t)) := by
  obtain ⟨k, h⟩ := h
  exact pe_glob hg h ⟨k, rfl⟩ hd
omit [TabC] in
theorem pe_globI {i : Int} (hg : Gl X x) (h : ∃ k, X.mg x = some (.int i k)) (hd : (x == ("__debug__" : Str)) = false := by decide) : PE X (.Name x pos) (tC (.int i)) := by
  obtain ⟨k, h⟩ := h
  exact pe_glob hg h ⟨k, rfl⟩ hd
end
structure Cal (P : Program) (w : World) (K : PySem.W.Frag) (mg : Str → Option Value) (base : Heap) (RX : RXR) (x : Str) (k : Nat) (io : List Bool) (sem : Fn) : Prop where
  ex : ∃ f fd ps, FnOk P w K mg base (L2N.CX P w) k f fd ps (spD K RX io sem) ∧ mg x = some (.ref f) ∧ PySem.W.keepIn K (.ref f) = true ∧ Binds K fd ps []
omit [TabC] in
theorem room65 {k : Nat} {A : Around} (r : Room k A) : A.units + 65 < cLine := by have := r.un; omega
omit [TabC] in
theorem room64 {k : Nat} {A : Around} (r : Room k A) : A.units + 64 < cLine := by have := r.un; omega
omit [TabC] in
theorem room1 {k : Nat} {A : Around} (r : Room k A) : A.units + 1 < cLine := by have := r.un; omega
section
variable {X : Cx} {RX : RXR} {W : WX} {k j n : Nat} {sem : Fn} {x : Str} {p pos : Pos} {e : Expr} {es : List Expr} {fa : Ev → R (List D)}
theorem de_callC (C : Cal X.prog X.w X.K X.mg X.base RX x j (List.replicate n false) sem) (hr : Room k X.A) (hj : j ≤ k) (hg : Gl X x) (tk : L2N.Takes X W) (ha : DA X RX W (e :: es) fa) (hdb : (x == ("__debug__" : Str)) = false := by decide)
    (he : starEach (e :: es) X.env = (false, eval e X.env) :: starEach es X.env := by rfl) (hpl : (backTo pos (starEach es X.env)).any (·.1) = false := by rfl) : DE X RX W (.Call (.Name x p) (e :: es) [] pos) (fCall n sem fa) := by
  obtain ⟨f, fd, ps, F, hm, hk, hb⟩ := C.ex
  exact de_call F (hr.mono hj) hg hm hk hb tk ha hdb he hpl
theorem de_callIOC {i m : Nat} (C : Cal X.prog X.w X.K X.mg X.base RX x j (true :: List.replicate m false) sem) (hr : Room k X.A) (hj : j ≤ k) (hg : Gl X x) (tk : L2N.Takes X W) (hv : PE X e (tVar i)) (ha : DA X RX W es fa) (hdb : (x == ("__debug__" : Str)) = false := by decide)
    (he : starEach (e :: es) X.env = (false, eval e X.env) :: starEach es X.env := by rfl) (hpl : (backTo pos (starEach es X.env)).any (·.1) = false := by rfl) : DE X RX W (.Call (.Name x p) (e :: es) [] pos) (fCallIO i (m + 1) sem fa) := by
  obtain ⟨f, fd, ps, F, hm, hk, hb⟩ := C.ex
  exact de_callIO F (hr.mono hj) hg hm hk hb tk hv ha hdb he hpl
end
end Hap
namespace Hap
open PySem PySem.Spec PyProof.Rows L2
variable [TabC]
abbrev RX0 : RXR := fun _ _ _ _ _ => False
omit [TabC] in
theorem rls_ints {z : Bool} {K : PySem.W.Frag} {P : AS} {H : Hp} {F : AS} : ∀ ns : List Int, Rls z K P H (ns.map D.int) (ns.map V.int) F
  | [] => .nil
  | n :: ns => .cons (F1 := fun _ => False) (F2 := fun _ => False) .int (rls_ints ns) (fun b z => z.elim) (fun b z => z.elim) fun b z => z.elim
omit [TabC] in
theorem imms_ints : ∀ ns : List Int, isImms (ns.map D.int) = true
  | [] => rfl
  | n :: ns => by
    show (isImm (.int n) && isImms (ns.map D.int)) = true
    rw [imms_ints ns]; rfl
theorem law_sp {K : PySem.W.Frag} {RX : RXR} {sem : Fn} {a : Addr} {ns : List Int} {H : Hp} (hT : LamX.Tabs TabC.T H) (hS : SqL K H a (ns.map V.int)) (h : ∃ o, sem [.rol (ns.map D.int)] = .rt (.bl true) o) :
    spD K RX (List.replicate 1 false) sem [.ref a] H (fun v _ => v = .bl true) fun _ _ _ => False := by
  obtain ⟨o, h⟩ := h
  have hR : Rol K H (fun b => H b ≠ none) a (ns.map V.int) := by
    rcases hS with (h1 | ⟨o1, h1⟩) | h1
    · exact .inl ⟨by show H a ≠ none; rw [h1]; simp, .inl h1⟩
    · exact .inl ⟨by show H a ≠ none; rw [h1]; simp, .inr ⟨o1, h1⟩⟩
    · exact .inr h1
  refine ⟨rfl, fun b => H b ≠ none, [.rol (ns.map D.int)], fun _ => E_, ⟨fun b z => z, fun i b z => z.elim, fun i j b z => z.elim, fun i d e => ?_, rfl, TAB.all hT⟩, fun i _ b z => z.elim, ?_⟩
  · match i, e with
    | 0, e =>
      cases e
      exact ⟨_, rfl, .rol hR (imms_ints ns) (rls_ints ns)⟩
    | i + 1, e => simp at e
  · simp only [h]
    intro v P' H' FA' F S T t
    cases T.rl
    rfl
omit [TabC] in
theorem hCX0 {P : Program} {w : World} {H : Hp} {s : Shared} {e : Value} {s' : Shared} (h : L2N.CX P w [] H s (fun _ _ _ => False) e s') : False := by
  obtain ⟨_, _, _, _, _, _, _, _, _, _, _, _, z⟩ := h
  exact z.elim
instance (priority := low) noTab : TabC := ⟨[]⟩
end Hap
namespace Hap
open PySem PySem.Spec PyProof.Rows L2
def RS.seq (r : RS) (k : Ev → RS) : RS := match r with
  | .nx ρ' => k ρ'
  | .rt d ρ' => .rt d ρ'
  | .bk ρ' => .bk ρ'
  | .ct ρ' => .ct ρ'
  | .exc x ρ' => .exc x ρ'
  | .stk => .stk
def varR (o : Option (Option D)) (i : Nat) (ρ : Ev) : R D := match o with
  | some (some d) => .ok (frz d) (ρ.set i (some (frz d)))
  | _ => .stk
def varV (o : Option (Option D)) : Option D := match o with
  | some (some d) => some d
  | _ => none
def immR (o : Option D) (ρ : Ev) : R D := match o with
  | some d => if isImm d = true then .ok d ρ else .stk
  | none => .stk
def tgR (o : Option Ev) (k : Ev → RS) : RS := match o with
  | some ρ => k ρ
  | none => .stk
def blV (o : Option D) (ρ : Ev) : R Bool := match o with
  | some (.bl b) => .ok b ρ
  | _ => .stk
def takeR (o : Option (Option D)) (i : Nat) (ρ : Ev) : R D := match o with
  | some (some d) => .ok d (if isImm d = true then ρ else ρ.set i none)
  | _ => .stk
def rfOf (io : List Bool) (r : RS) : RF := match r with
  | .nx ρ => .rt .non (outsOf io ρ)
  | .rt d ρ => .rt d (outsOf io ρ)
  | .exc x ρ => .exc x (outsOf io ρ)
  | _ => .stk
section
variable {α β : Type} {ρ ρ' : Ev} {d : D} {x : DX}
theorem semOf_ap {io n g} {ds : List D} : semOf io n g ds = rfOf io (g (ds.map some ++ List.replicate (n - ds.length) none)) := by
  unfold semOf rfOf; rfl
@[simp] theorem rfOf_nx {io} : rfOf io (.nx ρ) = .rt .non (outsOf io ρ) := (rfl)
@[simp] theorem rfOf_rt {io} : rfOf io (.rt d ρ) = .rt d (outsOf io ρ) := (rfl)
@[simp] theorem rfOf_exc {io} : rfOf io (.exc x ρ) = .exc x (outsOf io ρ) := (rfl)
@[simp] theorem outsOf_nil {ρ} : outsOf [] ρ = [] := (rfl)
@[simp] theorem outsOf_t {bs o os} : outsOf (true :: bs) (o :: os) = o :: outsOf bs os := (rfl)
@[simp] theorem outsOf_f {bs o os} : outsOf (false :: bs) (o :: os) = none :: outsOf bs os := (rfl)
@[simp] theorem bind_ok {a : α} {f : α → Ev → R β} : (R.ok a ρ).bind f = f a ρ := (rfl)
@[simp] theorem bind_exc {f : α → Ev → R β} : (R.exc x ρ : R α).bind f = .exc x ρ := (rfl)
@[simp] theorem bind_stk {f : α → Ev → R β} : (R.stk : R α).bind f = .stk := (rfl)
@[simp] theorem of_some {a : α} : R.of (some a) ρ = .ok a ρ := (rfl)
@[simp] theorem rsof_ok {a : α} {k : α → Ev → RS} : RS.of (.ok a ρ) k = k a ρ := (rfl)
@[simp] theorem rsof_exc {k : α → Ev → RS} : RS.of (.exc x ρ) k = .exc x ρ := (rfl)
@[simp] theorem seq_nx {k : Ev → RS} : RS.seq (.nx ρ) k = k ρ := (rfl)
@[simp] theorem seq_rt {k : Ev → RS} : RS.seq (.rt d ρ) k = .rt d ρ := (rfl)
@[simp] theorem seq_exc {k : Ev → RS} : RS.seq (.exc x ρ) k = .exc x ρ := (rfl)
@[simp] theorem seq_bk {k : Ev → RS} : RS.seq (.bk ρ) k = .bk ρ := (rfl)
@[simp] theorem seq_ct {k : Ev → RS} : RS.seq (.ct ρ) k = .ct ρ := (rfl)
@[simp] theorem varR_s {i : Nat} : varR (some (some d)) i ρ = .ok (frz d) (ρ.set i (some (frz d))) := (rfl)
@[simp] theorem varV_s : varV (some (some d)) = some d := (rfl)
@[simp] theorem immR_s : immR (some d) ρ = if isImm d = true then .ok d ρ else .stk := (rfl)
@[simp] theorem tgR_s {k : Ev → RS} : tgR (some ρ) k = k ρ := (rfl)
@[simp] theorem blV_s {b : Bool} : blV (some (.bl b)) ρ = .ok b ρ := (rfl)
@[simp] theorem takeR_s {i : Nat} : takeR (some (some d)) i ρ = .ok d (if isImm d = true then ρ else ρ.set i none) := (rfl)
@[simp] theorem asB_s {b : Bool} : asB (.bl b) ρ = .ok b ρ := (rfl)
@[simp] theorem callR_rt {o : Ev} {u : Ev → Ev} : callR (.rt d o) ρ u = .ok d (u o) := (rfl)
@[simp] theorem callR_exc {o : Ev} {u : Ev → Ev} : callR (.exc x o) ρ u = .exc x (u o) := (rfl)
@[simp] theorem hd0_c {o : Option D} {os : Ev} : hd0 (o :: os) = o := (rfl)
@[simp] theorem ap_next : fNext ρ = .nx ρ := (rfl)
@[simp] theorem ap_seq {g k : Ev → RS} : fSeq g k ρ = RS.seq (g ρ) k := (rfl)
@[simp] theorem ap_ret {f : Ev → R D} : fRet f ρ = RS.of (f ρ) .rt := (rfl)
@[simp] theorem ap_drop {f : Ev → R D} : fDrop f ρ = RS.of (f ρ) fun _ ρ' => .nx ρ' := (rfl)
@[simp] theorem ap_if {c : Ev → R Bool} {g k : Ev → RS} : fIf c g k ρ = RS.of (c ρ) fun b ρ' => if b = true then g ρ' else k ρ' := (rfl)
@[simp] theorem ap_asg {f : Ev → R D} {t} : fAsg f t ρ = RS.of (f ρ) fun d ρ' => tgR (t d ρ') .nx := by
  unfold fAsg tgR; rfl
@[simp] theorem ap_gN {i : Nat} : gN i d ρ = some (ρ.set i (some d)) := (rfl)
@[simp] theorem ap_gsN : gsN [] ρ = some ρ := (rfl)
@[simp] theorem ap_gsC {t u} {ds : List D} : gsC t u (d :: ds) ρ = (t d ρ).bind (u ds) := by
  unfold gsC; dsimp only; cases t d ρ <;> rfl
@[simp] theorem ap_gT {n u} {ds : List D} : gT n u (.tup ds) ρ = if ds.length = n then u ds ρ else none := (rfl)
@[simp] theorem ap_for {f t g} : fFor f t g ρ = RS.of (f ρ) (loopS (stepS t g)) := (rfl)
theorem ap_step {t g} : stepS t g d ρ = tgR (t d ρ) g := by
  unfold stepS tgR; rfl
@[simp] theorem ap_it {g : D → Option (List D)} {f : Ev → R D} : fIt g f ρ = (f ρ).bind fun d ρ' => R.of (g d) ρ' := (rfl)
@[simp] theorem ap_itN {g : List D → Option (List D)} {f : Ev → R (List D)} : fItN g f ρ = (f ρ).bind fun d ρ' => R.of (g d) ρ' := (rfl)
@[simp] theorem ap_var {i : Nat} : fVar i ρ = varR ρ[i]? i ρ := by unfold fVar varR; rfl
@[simp] theorem ap_vvar {i : Nat} : vVar i ρ = varV ρ[i]? := by unfold vVar varV; rfl
@[simp] theorem ap_I {f : Ev → Option D} : fI f ρ = immR (f ρ) ρ := by unfold fI immR; rfl
@[simp] theorem ap_nil : fNil ρ = .ok [] ρ := (rfl)
@[simp] theorem ap_cons {f g} : fCons f g ρ = (f ρ).bind fun d ρ1 => (g ρ1).bind fun ds ρ2 => .ok (d :: ds) ρ2 := (rfl)
@[simp] theorem ap_vnil : vNil ρ = some [] := (rfl)
@[simp] theorem ap_vcons {f g} : vCons f g ρ = (f ρ).bind fun d => (g ρ).bind fun ds => some (d :: ds) := (rfl)
@[simp] theorem ap_op1 {g f} : fOp1 g f ρ = (f ρ).bind fun d ρ' => R.of (g d) ρ' := (rfl)
@[simp] theorem ap_op2 {g f h} : fOp2 g f h ρ = (f ρ).bind fun d ρ1 => (h ρ1).bind fun e ρ2 => R.of (g d e) ρ2 := (rfl)
@[simp] theorem ap_op2V {g f h} : fOp2V g f h ρ = (f ρ).bind fun d ρ1 => R.of ((h ρ1).bind (g d)) ρ1 := (rfl)
@[simp] theorem ap_opN {g f} : fOpN g f ρ = (f ρ).bind fun ds ρ' => R.of (g ds) ρ' := (rfl)
@[simp] theorem ap_v1 {g f} : vOp1 g f ρ = (f ρ).bind g := (rfl)
@[simp] theorem ap_v2 {g f h} : vOp2 g f h ρ = (f ρ).bind fun d => (h ρ).bind (g d) := (rfl)
@[simp] theorem ap_vN {g f} : vOpN g f ρ = (f ρ).bind g := (rfl)
@[simp] theorem ap_k : fK d ρ = .ok d ρ := (rfl)
@[simp] theorem ap_vk : vK d ρ = some d := (rfl)
@[simp] theorem ap_o0 : fO0 ρ = .ok none ρ := (rfl)
@[simp] theorem ap_yes : fYes ρ = .ok true ρ := (rfl)
@[simp] theorem ap_vlst {f} : vLst f ρ = (f ρ).bind fun ds => if ds.length ≤ sizeLine then some (.lst true ds) else none := (rfl)
@[simp] theorem ap_vtup {f} : vTup f ρ = (f ρ).bind fun ds => if ds.length ≤ sizeLine then some (.tup ds) else none := (rfl)
@[simp] theorem ap_lst {f} : fLst f ρ = (f ρ).bind fun ds ρ1 => if ds.length ≤ sizeLine then .ok (.lst true ds) ρ1 else .stk := (rfl)
@[simp] theorem ap_tup {f} : fTup f ρ = (f ρ).bind fun ds ρ1 => if ds.length ≤ sizeLine then .ok (.tup ds) ρ1 else .stk := (rfl)
@[simp] theorem ap_takeS {i : Nat} : takeS i ρ = takeR ρ[i]? i ρ := by unfold takeS takeR; rfl
@[simp] theorem ap_mv {i : Nat} : fMv i ρ = takeR ρ[i]? i ρ := ap_takeS
def isS {β : Type} (o : Option (Option D)) (k : D → R β) : R β := match o with
  | some (some d) => k d
  | _ => .stk
@[simp] theorem isS_s {k : D → R β} : isS (some (some d)) k = k d := (rfl)
@[simp] theorem ap_consL {i : Nat} {g} : fConsL i g ρ = isS ρ[i]? fun _ => (g ρ).bind fun ds ρ2 => (takeS i ρ2).bind fun d ρ3 => .ok (d :: ds) ρ3 := by
  unfold fConsL isS; rfl
@[simp] theorem ap_op2L {i : Nat} {g k} : fOp2L g i k ρ = isS ρ[i]? fun _ => (k ρ).bind fun e ρ1 => isS ρ1[i]? fun d => R.of (g d e) ρ1 := by
  unfold fOp2L isS; rfl
@[simp] theorem ap_ixE {i : Nat} {k} : fIxE i k ρ = isS ρ[i]? fun _ => (k ρ).bind fun e ρ1 => isS ρ1[i]? fun d => R.of (gIxI d e) ρ1 := by
  unfold fIxE isS; rfl
@[simp] theorem ap_tb {f} : fTb f ρ = (f ρ).bind asB := (rfl)
@[simp] theorem ap_tv {f} : fTv f ρ = blV (f ρ) ρ := by unfold fTv blV; rfl
@[simp] theorem ap_and {f g : Ev → R Bool} : fAnd f g ρ = (f ρ).bind fun b ρ1 => if b = true then g ρ1 else .ok false ρ1 := (rfl)
@[simp] theorem ap_or {f g : Ev → R Bool} : fOr f g ρ = (f ρ).bind fun b ρ1 => if b = true then .ok true ρ1 else g ρ1 := (rfl)
@[simp] theorem ap_not {f : Ev → R Bool} : fNot f ρ = (f ρ).bind fun b ρ1 => .ok (!b) ρ1 := (rfl)
@[simp] theorem ap_andD {f g : Ev → R D} : fAndD f g ρ = (f ρ).bind fun d ρ1 => (asB d ρ1).bind fun b ρ1 => if b = true then g ρ1 else .ok (.bl false) ρ1 := by
  unfold fAndD asB; cases f ρ with
  | ok d ρ1 => cases d <;> rfl
  | exc => rfl
  | stk => rfl
@[simp] theorem ap_orD {f g : Ev → R D} : fOrD f g ρ = (f ρ).bind fun d ρ1 => (asB d ρ1).bind fun b ρ1 => if b = true then .ok (.bl true) ρ1 else g ρ1 := by
  unfold fOrD asB; cases f ρ with
  | ok d ρ1 => cases d <;> rfl
  | exc => rfl
  | stk => rfl
@[simp] theorem ap_notD {f : Ev → R D} : fNotD f ρ = (f ρ).bind fun d ρ1 => (asB d ρ1).bind fun b ρ1 => .ok (.bl (!b)) ρ1 := by
  unfold fNotD asB; cases f ρ with
  | ok d ρ1 => cases d <;> rfl
  | exc => rfl
  | stk => rfl
@[simp] theorem ap_ifE {c f g} : fIfE c f g ρ = (c ρ).bind fun b ρ1 => if b = true then f ρ1 else g ρ1 := (rfl)
def chR (o : Option D) (k : Bool → R D) : R D := match o with
  | some (.bl b) => k b
  | _ => .stk
@[simp] theorem chR_s {b : Bool} {k} : chR (some (.bl b)) k = k b := (rfl)
@[simp] theorem ap_chain {g g' : D → D → Option D} {fa fb fc : Ev → R D} : fChain g g' fa fb fc ρ = (fa ρ).bind fun a ρ1 => (fb ρ1).bind fun b ρ2 => chR (g a b) fun k => if k = true then (fc ρ2).bind fun c ρ3 => R.of (g' b c) ρ3 else .ok (.bl false) ρ2 := by
  unfold fChain chR; rfl
@[simp] theorem ap_call {n sem fa} : fCall n sem fa ρ = (fa ρ).bind fun ds ρ1 => if ds.length = n then callR (sem (frzs ds)) ρ1 fun _ => ρ1 else .stk := (rfl)
@[simp] theorem ap_callIO {j n sem fa} : fCallIO j n sem fa ρ = isS ρ[j]? fun _ => (fa ρ).bind fun ds ρ1 => isS ρ1[j]? fun d0 => if ds.length + 1 = n then callR (sem (d0 :: frzs ds)) ρ1 fun outs => ρ1.set j (hd0 outs) else .stk := by
  unfold fCallIO isS; rfl
@[simp] theorem ap_meth {ty g fo fa} : fMeth ty g fo fa ρ = (fo ρ).bind fun d ρ1 => if ty d = true then (fa ρ1).bind fun ds ρ2 => R.of (g d ds) ρ2 else .stk := (rfl)
@[simp] theorem ap_sl {f l u} : fSl f l u ρ = (f ρ).bind fun d ρ1 => (l ρ1).bind fun lo ρ2 => (u ρ2).bind fun hi ρ3 => R.of (gSl d lo hi) ρ3 := (rfl)
def intO (d : D) (ρ : Ev) : R (Option Int) := match d with
  | .int i => .ok (some i) ρ
  | _ => .stk
@[simp] theorem intO_s {i : Int} : intO (.int i) ρ = .ok (some i) ρ := (rfl)
@[simp] theorem ap_O {f} : fO f ρ = (f ρ).bind intO := by unfold fO intO; rfl
def appS (o : Option (Option D)) (i : Nat) (d : D) (ρ : Ev) : RS := match o with
  | some (some (.lst true xs)) => if xs.length < sizeLine then .nx (ρ.set i (some (.lst true (xs ++ [d])))) else .stk
  | _ => .stk
@[simp] theorem appS_s {i : Nat} {xs : List D} : appS (some (some (.lst true xs))) i d ρ = if xs.length < sizeLine then .nx (ρ.set i (some (.lst true (xs ++ [d])))) else .stk := (rfl)
def isLs (o : Option (Option D)) (k : RS) : RS := match o with
  | some (some (.lst _ _)) => k
  | _ => .stk
@[simp] theorem isLs_s {b : Bool} {xs : List D} {k : RS} : isLs (some (some (.lst b xs))) k = k := (rfl)
def one1 (ds : List D) (k : D → RS) : RS := match ds with
  | [d] => k d
  | _ => .stk
@[simp] theorem one1_s {k : D → RS} : one1 [d] k = k d := (rfl)
@[simp] theorem ap_append {i : Nat} {f} : fAppend i f ρ = isLs ρ[i]? (RS.of (f ρ) fun ds ρ1 => one1 ds fun d => appS ρ1[i]? i d ρ1) := by
  unfold fAppend isLs one1 appS; rfl
def setS (o : Option (Option D)) (i : Nat) (d e : D) (ρ : Ev) : RS := match e with
  | .int n => (match o with
    | some (some (.lst true xs)) => (match ixN xs.length n with
      | some j => .nx (ρ.set i (some (.lst true (xs.set j d))))
      | none => .stk)
    | _ => .stk)
  | _ => .stk
def isSS (o : Option (Option D)) (k : RS) : RS := match o with
  | some (some _) => k
  | _ => .stk
@[simp] theorem isSS_s {k : RS} : isSS (some (some d)) k = k := (rfl)
@[simp] theorem ap_setL {i : Nat} {f k} : fSetL i f k ρ = RS.of (f ρ) fun d ρ1 => isSS ρ1[i]? (RS.of (k ρ1) fun e ρ2 => setS ρ2[i]? i d e ρ2) := by
  unfold fSetL isSS setS; rfl
theorem setS_n {i j : Nat} {xs : List D} (h : j < xs.length) : setS (some (some (.lst true xs))) i d (.int j) ρ = .nx (ρ.set i (some (.lst true (xs.set j d)))) := by
  unfold setS
  have : ixN xs.length (j : Int) = some j := by unfold ixN; rw [if_pos (by omega), if_pos (by omega)]; simp
  simp only [this]
def augS (o : Option D) (i : Nat) (ρ : Ev) : RS := match o with
  | some x => .nx (ρ.set i (some x))
  | none => .stk
@[simp] theorem augS_s {i : Nat} : augS (some d) i ρ = .nx (ρ.set i (some d)) := (rfl)
def isIm (o : Option (Option D)) (k : D → RS) : RS := match o with
  | some (some d0) => if isImm d0 = true then k d0 else .stk
  | _ => .stk
@[simp] theorem isIm_s {k : D → RS} : isIm (some (some d)) k = if isImm d = true then k d else .stk := (rfl)
@[simp] theorem ap_aug {i : Nat} {g f} : fAug i g f ρ = isIm ρ[i]? fun d0 => RS.of (f ρ) fun d ρ1 => augS (g d0 d) i ρ1 := by
  unfold fAug isIm augS; rfl
end
section
variable {d : D} {ds xs : List D} {o : Bool}
@[simp] theorem frz_int {i} : frz (.int i) = .int i := (rfl)
@[simp] theorem frz_bl {i} : frz (.bl i) = .bl i := (rfl)
@[simp] theorem frz_str {i} : frz (.str i) = .str i := (rfl)
@[simp] theorem frz_non : frz .non = .non := (rfl)
@[simp] theorem frz_gv {v} : frz (.gv v) = .gv v := (rfl)
@[simp] theorem frz_lst : frz (.lst o xs) = .lst false (frzs xs) := (rfl)
@[simp] theorem frz_tup : frz (.tup xs) = .tup (frzs xs) := (rfl)
@[simp] theorem frz_rol : frz (.rol xs) = .rol (frzs xs) := (rfl)
@[simp] theorem frzs_nil : frzs [] = [] := (rfl)
@[simp] theorem frzs_cons : frzs (d :: ds) = frz d :: frzs ds := (rfl)
theorem frzs_map : ∀ ds : List D, frzs ds = ds.map frz
  | [] => rfl
  | d :: ds => by rw [frzs, frzs_map ds]; rfl
@[simp] theorem imm_int {i} : isImm (.int i) = true := (rfl)
@[simp] theorem imm_bl {i} : isImm (.bl i) = true := (rfl)
@[simp] theorem imm_str {i} : isImm (.str i) = true := (rfl)
@[simp] theorem imm_non : isImm .non = true := (rfl)
@[simp] theorem imm_lstO : isImm (.lst true xs) = false := (rfl)
@[simp] theorem imm_lstI : isImm (.lst false xs) = isImms xs := by show (!false && isImms xs) = _; simp
@[simp] theorem imm_tup : isImm (.tup xs) = isImms xs := (rfl)
@[simp] theorem imm_rol : isImm (.rol xs) = isImms xs := (rfl)
@[simp] theorem imms_nil : isImms [] = true := (rfl)
@[simp] theorem imms_cons : isImms (d :: ds) = (isImm d && isImms ds) := (rfl)
theorem imms_all : isImms ds = true ↔ ∀ d ∈ ds, isImm d = true := by
  induction ds with
  | nil => simp
  | cons d ds ih => simp [ih]
theorem imms_map {α : Type} {f : α → D} {xs : List α} (h : ∀ x ∈ xs, isImm (f x) = true) : isImms (xs.map f) = true := by
  rw [imms_all]; intro d hd; obtain ⟨x, hx, rfl⟩ := List.mem_map.mp hd; exact h x hx
theorem frzs_mapf {α : Type} {f g : α → D} {xs : List α} (h : ∀ x ∈ xs, frz (f x) = g x) : frzs (xs.map f) = xs.map g := by
  rw [frzs_map, List.map_map]; exact List.map_congr_left h
@[simp] theorem add_ii {i j} : gAdd (.int i) (.int j) = some (.int (i + j)) := (rfl)
theorem add_ss {x y} : gAdd (.str x) (.str y) = if x.length + y.length ≤ sizeLine then some (.str (x ++ y)) else none := rfl
theorem add_ll {a b xs ys} : gAdd (.lst a xs) (.lst b ys) = if (isImms xs = true ∧ isImms ys = true) ∧ xs.length + ys.length ≤ sizeLine then some (.lst true (xs ++ ys)) else none := rfl
@[simp] theorem sub_ii {i j} : gSub (.int i) (.int j) = some (.int (i - j)) := (rfl)
@[simp] theorem mul_ii {i j} : gMul (.int i) (.int j) = if CMul i j then some (.int (i * j)) else none := (rfl)
@[simp] theorem fdiv_ii {i j} : gFdiv (.int i) (.int j) = if CDivX i j then some (.int (Int.fdiv i j)) else none := (rfl)
@[simp] theorem mod_ii {i j} : gMod (.int i) (.int j) = if j ≠ 0 then some (.int (Int.fmod i j)) else none := (rfl)
@[simp] theorem pow_ii {i j} : gPow (.int i) (.int j) = if CPow i j then some (.int (i ^ j.toNat)) else none := (rfl)
@[simp] theorem shl_ii {i j} : gShl (.int i) (.int j) = if CPow i j then some (.int (i * 2 ^ j.toNat)) else none := (rfl)
@[simp] theorem shr_ii {i j : Int} : gShr (.int i) (.int j) = if 0 ≤ j then some (.int (i / 2 ^ j.toNat)) else none := (rfl)
@[simp] theorem band_ii {i j} : gBand (.int i) (.int j) = some (.int (Builtin.bitAnd i j)) := (rfl)
@[simp] theorem bor_ii {i j} : gBor (.int i) (.int j) = some (.int (Builtin.bitOr i j)) := (rfl)
@[simp] theorem neg_i {i} : gNeg (.int i) = some (.int (-i)) := (rfl)
@[simp] theorem lt_ii {i j : Int} : gLt (.int i) (.int j) = some (.bl (decide (i < j))) := (rfl)
@[simp] theorem le_ii {i j : Int} : gLe (.int i) (.int j) = some (.bl (decide (i ≤ j))) := (rfl)
@[simp] theorem gt_ii {i j : Int} : gGt (.int i) (.int j) = some (.bl (decide (j < i))) := (rfl)
@[simp] theorem ge_ii {i j : Int} : gGe (.int i) (.int j) = some (.bl (decide (j ≤ i))) := (rfl)
@[simp] theorem lt_ss {x y : Str} : gLt (.str x) (.str y) = some (.bl (decide (x.cps.toList < y.cps.toList))) := (rfl)
@[simp] theorem eq_ii {i j : Int} : gEq (.int i) (.int j) = some (.bl (decide (i = j))) := (rfl)
@[simp] theorem eq_bb {i j : Bool} : gEq (.bl i) (.bl j) = some (.bl (decide (i = j))) := (rfl)
@[simp] theorem eq_ss {i j : Str} : gEq (.str i) (.str j) = some (.bl (decide (i = j))) := (rfl)
@[simp] theorem ne_ii {i j : Int} : gNe (.int i) (.int j) = some (.bl (!decide (i = j))) := (rfl)
@[simp] theorem ne_bb {i j : Bool} : gNe (.bl i) (.bl j) = some (.bl (!decide (i = j))) := (rfl)
@[simp] theorem ne_ss {i j : Str} : gNe (.str i) (.str j) = some (.bl (!decide (i = j))) := (rfl)
@[simp] theorem len_l : gLen [.lst o xs] = some (.int xs.length) := (rfl)
@[simp] theorem len_r : gLen [.rol xs] = some (.int xs.length) := (rfl)
@[simp] theorem len_t : gLen [.tup xs] = some (.int xs.length) := (rfl)
@[simp] theorem len_s {x : Str} : gLen [.str x] = if x.length ≤ sizeLine then some (.int x.length) else none := (rfl)
@[simp] theorem abs_i {i : Int} : gAbs [.int i] = some (.int (if i < 0 then -i else i)) := (rfl)
@[simp] theorem max2_i {i j : Int} : gMax2 [.int i, .int j] = some (.int (if j > i then j else i)) := (rfl)
@[simp] theorem min2_i {i j : Int} : gMin2 [.int i, .int j] = some (.int (if j < i then j else i)) := (rfl)
@[simp] theorem items_l : itemsL (.lst o xs) = some (frzs xs) := (rfl)
@[simp] theorem items_r : itemsL (.rol xs) = some xs := (rfl)
@[simp] theorem items_t : itemsT (.tup xs) = some (frzs xs) := (rfl)
@[simp] theorem items_s {x : Str} : itemsS (.str x) = some (strD x) := (rfl)
@[simp] theorem lstOf_l : lstOf (.lst o xs) = some xs := (rfl)
@[simp] theorem any_l : gAny [.lst o xs] = (boolsD xs).map fun bs => .bl (bs.any id) := (rfl)
@[simp] theorem all_l : gAll [.lst o xs] = (boolsD xs).map fun bs => .bl (bs.all id) := (rfl)
theorem at_nat {α : Type} {xs : List α} {i : Nat} : atI xs (i : Int) = xs[i]? := by
  unfold atI ixN
  by_cases h : i < xs.length
  · rw [if_pos (by omega), if_pos (by omega)]; simp
  · rw [if_pos (by omega), if_neg (by omega), List.getElem?_eq_none (by omega)]; rfl
@[simp] theorem at_0 {α : Type} {xs : List α} : atI xs 0 = xs[0]? := at_nat (i := 0)
@[simp] theorem at_1 {α : Type} {xs : List α} : atI xs 1 = xs[1]? := at_nat (i := 1)
@[simp] theorem at_2 {α : Type} {xs : List α} : atI xs 2 = xs[2]? := at_nat (i := 2)
@[simp] theorem at_3 {α : Type} {xs : List α} : atI xs 3 = xs[3]? := at_nat (i := 3)
@[simp] theorem ix_l {i : Int} : gIx (.lst o xs) (.int i) = atI xs i := (rfl)
@[simp] theorem ix_r {i : Int} : gIx (.rol xs) (.int i) = atI xs i := (rfl)
@[simp] theorem ix_t {i : Int} : gIx (.tup xs) (.int i) = atI xs i := (rfl)
theorem ixI_of {e x : D} (h : gIx d e = some x) (i : isImm x = true) : gIxI d e = some x := by
  unfold gIxI; simp only [h, if_pos i]
end
end Hap
namespace Hap
open PySem PySem.Spec PyProof.Rows L2
theorem bitNot_eq (x : Int) : Builtin.bitNot x = -x - 1 := by
  unfold Builtin.bitNot; omega
theorem band_nn (a b : Nat) : Builtin.bitAnd (a : Int) (b : Int) = ((a &&& b : Nat) : Int) := by
  unfold Builtin.bitAnd
  rw [decide_eq_true (Int.natCast_nonneg a), decide_eq_true (Int.natCast_nonneg b)]
  rfl
theorem bor_nn (a b : Nat) : Builtin.bitOr (a : Int) (b : Int) = ((a ||| b : Nat) : Int) := by
  unfold Builtin.bitOr Builtin.bitAnd
  rw [decide_eq_false (show ¬ 0 ≤ Builtin.bitNot (a : Int) by rw [bitNot_eq]; omega), decide_eq_false (show ¬ 0 ≤ Builtin.bitNot (b : Int) by rw [bitNot_eq]; omega)]
  have e : ∀ x : Int, Builtin.bitNot (Builtin.bitNot x) = x := fun x => by rw [bitNot_eq, bitNot_eq]; omega
  simp only [e]
  rfl
theorem test_1 (a b : Nat) : ((((a >>> b) &&& 1 : Nat) : Int) = 1) ↔ a.testBit b = true := by
  have : (a.testBit b = true) ↔ (1 &&& (a >>> b)) ≠ 0 := by unfold Nat.testBit; simp
  rw [this]
  have h2 : (a >>> b) &&& 1 = (a >>> b) % 2 := Nat.and_one_is_mod _
  have h3 : 1 &&& (a >>> b) = (a >>> b) % 2 := Nat.one_and_eq_mod_two _
  rw [h2, h3]
  omega
theorem cpow_small (i : Int) (j : Nat) (h : j ≤ 1000000) (hi : i.natAbs < 2 ^ 64) : CPow i j := ⟨by omega, by omega, hi⟩
theorem rangeD_eq : ∀ (lo : Int) (n : Nat), rangeD lo n = (List.range n).map fun i => .int (lo + (i : Nat))
  | lo, 0 => rfl
  | lo, n + 1 => by
    rw [rangeD, rangeD_eq (lo + 1) n, List.range_succ_eq_map, List.map_cons, List.map_map]
    congr 1
    · simp
    · apply List.map_congr_left; intro i _; show D.int _ = D.int _; congr 1; simp; omega
theorem rangeD_0 (n : Nat) : rangeD 0 n = (List.range n).map fun i => .int ((i : Nat) : Int) := by
  rw [rangeD_eq]; apply List.map_congr_left; intro i _; simp
theorem rng1_n {n : Nat} (h : n < 2 ^ 60) : rng1 [.int (n : Int)] = some ((List.range n).map fun i => .int ((i : Nat) : Int)) := by
  unfold rng1
  dsimp only
  rw [if_pos ⟨by omega, by omega⟩, Int.toNat_natCast, rangeD_0]
theorem loop_inv {step : D → Ev → RS} (I : Nat → Ev → Prop) : ∀ (ds : List D) (k : Nat) (ρ : Ev), I k ρ → (∀ j d ρ, ds[j]? = some d → I (k + j) ρ → ∃ ρ', step d ρ = .nx ρ' ∧ I (k + j + 1) ρ') → ∃ ρ', loopS step ds ρ = .nx ρ' ∧ I (k + ds.length) ρ'
  | [], k, ρ, h, _ => ⟨ρ, rfl, h⟩
  | d :: ds, k, ρ, h, hs => by
    obtain ⟨ρ1, e, h1⟩ := hs 0 d ρ rfl h
    obtain ⟨ρ', e', h'⟩ := loop_inv I ds (k + 1) ρ1 h1 fun j d ρ hj hI => by
      have := hs (j + 1) d ρ (by simpa using hj) (by rw [show k + (j + 1) = k + 1 + j by omega]; exact hI)
      rwa [show k + (j + 1) + 1 = k + 1 + j + 1 by omega] at this
    refine ⟨ρ', ?_, ?_⟩
    · show (match step d ρ with | .nx ρ' => loopS step ds ρ' | .ct ρ' => loopS step ds ρ' | .bk ρ' => .nx ρ' | .rt d ρ' => .rt d ρ' | .exc x ρ' => .exc x ρ' | .stk => .stk) = _
      rw [e]; exact e'
    · rw [List.length_cons, show k + (ds.length + 1) = k + 1 + ds.length by omega]; exact h'
/-- a loop by an invariant over how many turns were made -/
theorem loop0 {step : D → Ev → RS} {ds : List D} {ρ : Ev} (I : Nat → Ev → Prop) (h : I 0 ρ) (hs : ∀ j d ρ, ds[j]? = some d → I j ρ → ∃ ρ', step d ρ = .nx ρ' ∧ I (j + 1) ρ') : ∃ ρ', loopS step ds ρ = .nx ρ' ∧ I ds.length ρ' := by
  have := loop_inv I ds 0 ρ h (fun j d ρ hj hI => by rw [Nat.zero_add] at hI ⊢; exact hs j d ρ hj hI)
  rwa [Nat.zero_add] at this
/-- .. over a range -/
theorem loopR {step : D → Ev → RS} {n : Nat} {ρ : Ev} (I : Nat → Ev → Prop) (h : I 0 ρ) (hs : ∀ j ρ, j < n → I j ρ → ∃ ρ', step (.int (j : Int)) ρ = .nx ρ' ∧ I (j + 1) ρ') : ∃ ρ', loopS step ((List.range n).map fun i => .int ((i : Nat) : Int)) ρ = .nx ρ' ∧ I n ρ' := by
  have := loop0 (step := step) (ds := (List.range n).map fun i => .int ((i : Nat) : Int)) I h fun j d ρ hj hI => by
    rw [List.getElem?_map] at hj
    by_cases hn : j < n
    · rw [List.getElem?_range hn] at hj
      cases hj
      exact hs j ρ hn hI
    · rw [List.getElem?_eq_none (by simp; omega)] at hj; cases hj
  simpa using this
/-- .. over mapped items -/
theorem loopM {α : Type} {step : D → Ev → RS} {f : α → D} {xs : List α} {ρ : Ev} (I : Nat → Ev → Prop) (h : I 0 ρ) (hs : ∀ j x ρ, xs[j]? = some x → I j ρ → ∃ ρ', step (f x) ρ = .nx ρ' ∧ I (j + 1) ρ') : ∃ ρ', loopS step (xs.map f) ρ = .nx ρ' ∧ I xs.length ρ' := by
  have := loop0 (step := step) (ds := xs.map f) I h fun j d ρ hj hI => by
    rw [List.getElem?_map] at hj
    cases e : xs[j]? with
    | none => rw [e] at hj; cases hj
    | some x => rw [e] at hj; cases hj; exact hs j x ρ e hI
  simpa using this
/-- .. that may leave early by a return -/
def Goes (N : Ev → Prop) (T : D → Ev → Prop) (r : RS) : Prop := (∃ ρ, r = .nx ρ ∧ N ρ) ∨ ∃ d ρ, r = .rt d ρ ∧ T d ρ
theorem loopT {α : Type} {step : D → Ev → RS} {f : α → D} {T : D → Ev → Prop} (I : List α → Ev → Prop) (xs : List α) (ρ : Ev) (h : I xs ρ) (hs : ∀ x xs ρ, I (x :: xs) ρ → Goes (I xs) T (step (f x) ρ)) : Goes (I []) T (loopS step (xs.map f) ρ) := by
  induction xs generalizing ρ with
  | nil => exact .inl ⟨ρ, rfl, h⟩
  | cons x xs ih =>
    show Goes (I []) T (match step (f x) ρ with | .nx ρ' => loopS step (xs.map f) ρ' | .ct ρ' => loopS step (xs.map f) ρ' | .bk ρ' => .nx ρ' | .rt d ρ' => .rt d ρ' | .exc x ρ' => .exc x ρ' | .stk => .stk)
    rcases hs x xs ρ h with ⟨ρ1, e, h1⟩ | ⟨d, ρ1, e, h1⟩
    · rw [e]; exact ih ρ1 h1
    · rw [e]; exact .inr ⟨d, ρ1, rfl, h1⟩
theorem wipe_len : ∀ (vs : List Nat) (ρ : Ev), (wipeE ρ vs).length = ρ.length
  | [], ρ => rfl
  | v :: vs, ρ => by rw [wipeE, List.length_set, wipe_len vs]
theorem loopC_map {α : Type} {t : D → Ev → Option Ev} {c : Ev → R Bool} {f : Ev → R D} {vs : List Nat} {g : α → D} {p : α → Bool} {e : α → D} {W : Ev} : ∀ (xs : List α) (acc : List D),
    (∀ x ∈ xs, ∃ ρ1, t (g x) W = some ρ1 ∧ ∃ ρ2, c ρ1 = .ok (p x) ρ2 ∧ (p x = true → ∃ ρ3, f ρ2 = .ok (e x) ρ3 ∧ wipeE ρ3 vs = W) ∧ (p x = false → wipeE ρ2 vs = W)) →
    loopC t c f vs (xs.map g) acc W = .ok (acc ++ (xs.filter p).map e) W
  | [], acc, _ => by simp [loopC]
  | x :: xs, acc, h => by
    obtain ⟨ρ1, h1, ρ2, h2, ht, hf⟩ := h x List.mem_cons_self
    have ih := fun acc => loopC_map xs acc fun y hy => h y (List.mem_cons_of_mem _ hy)
    rw [List.map_cons, loopC, h1]
    dsimp only
    cases hp : p x with
    | true =>
      rw [hp] at h2
      obtain ⟨ρ3, h3, h4⟩ := ht hp
      rw [h2]; dsimp only; rw [h3]; dsimp only; rw [h4, ih]
      simp [hp]
    | false =>
      rw [hp] at h2
      rw [h2]; dsimp only; rw [hf hp, ih]
      simp [hp]
theorem back_wipe : ∀ (vs : List Nat) (ρ : Ev), backE ρ (wipeE ρ vs) vs = ρ := by
  have key : ∀ (vs : List Nat) (ρ ρ' : Ev), ρ'.length = ρ.length → (∀ i, i ∉ vs → ρ'[i]? = ρ[i]?) → backE ρ ρ' vs = ρ := by
    intro vs
    induction vs with
    | nil => intro ρ ρ' hl h; exact List.ext_getElem? fun i => h i (by simp)
    | cons v vs ih =>
      intro ρ ρ' hl h
      have hb : ∀ (us : List Nat) (σ : Ev), (backE ρ σ us).length = σ.length := by
        intro us; induction us with
        | nil => intro σ; rfl
        | cons u us ih => intro σ; rw [backE, List.length_set, ih]
      have hg : ∀ (us : List Nat) (σ : Ev) (i : Nat), σ.length = ρ.length → (backE ρ σ us)[i]? = if i ∈ us then ρ[i]? else σ[i]? := by
        intro us; induction us with
        | nil => intro σ i _; simp [backE]
        | cons u us ih =>
          intro σ i hσ
          rw [backE, List.getElem?_set]
          by_cases hu : u = i
          · subst hu
            simp only [List.mem_cons, true_or, if_true, ite_true]
            rw [hb, hσ]
            by_cases hlt : u < ρ.length
            · rw [if_pos hlt, List.getElem?_eq_getElem hlt]
            · rw [if_neg hlt]; exact (List.getElem?_eq_none (by omega)).symm
          · rw [if_neg hu, ih σ i hσ]
            simp only [List.mem_cons, Ne.symm hu, false_or]
      apply List.ext_getElem?
      intro i
      have e2 : (backE ρ ρ' (v :: vs))[i]? = _ := hg (v :: vs) ρ' i hl
      rw [e2]
      by_cases hm : i ∈ v :: vs
      · rw [if_pos hm]
      · rw [if_neg hm]; exact h i hm
  intro vs ρ
  refine key vs ρ _ (wipe_len vs ρ) ?_
  intro i hi
  have : ∀ (us : List Nat) (ρ : Ev), i ∉ us → (wipeE ρ us)[i]? = ρ[i]? := by
    intro us
    induction us with
    | nil => intro ρ _; rfl
    | cons u us ih =>
      intro ρ h
      rw [wipeE, List.getElem?_set_ne (by intro e; subst e; exact h List.mem_cons_self)]
      exact ih ρ fun z => h (List.mem_cons_of_mem _ z)
  exact this vs ρ hi
theorem lc_map {α : Type} {i : Ev → R (List D)} {t : D → Ev → Option Ev} {c : Ev → R Bool} {f : Ev → R D} {vs : List Nat} {g : α → D} {p : α → Bool} {e : α → D} {xs : List α} {ρ ρ1 : Ev}
    (hi : i ρ = .ok (xs.map g) ρ1) (him : immAt ρ1 vs = true) (hl : xs.length ≤ sizeLine)
    (h : ∀ x ∈ xs, ∃ ρ2, t (g x) (wipeE ρ1 vs) = some ρ2 ∧ ∃ ρ3, c ρ2 = .ok (p x) ρ3 ∧ (p x = true → ∃ ρ4, f ρ3 = .ok (e x) ρ4 ∧ wipeE ρ4 vs = wipeE ρ1 vs) ∧ (p x = false → wipeE ρ3 vs = wipeE ρ1 vs)) :
    fLc i t c f vs ρ = .ok (.lst true ((xs.filter p).map e)) ρ1 := by
  unfold fLc
  rw [hi]
  dsimp only [R.bind]
  rw [if_pos ⟨him, by simpa using hl⟩, loopC_map xs [] h]
  dsimp only
  rw [back_wipe]; rfl
/-- without a test -/
theorem lc_all {α : Type} {i : Ev → R (List D)} {t : D → Ev → Option Ev} {f : Ev → R D} {vs : List Nat} {g : α → D} {e : α → D} {xs : List α} {ρ ρ1 : Ev}
    (hi : i ρ = .ok (xs.map g) ρ1) (him : immAt ρ1 vs = true) (hl : xs.length ≤ sizeLine)
    (h : ∀ x ∈ xs, ∃ ρ2, t (g x) (wipeE ρ1 vs) = some ρ2 ∧ ∃ ρ4, f ρ2 = .ok (e x) ρ4 ∧ wipeE ρ4 vs = wipeE ρ1 vs) :
    fLc i t fYes f vs ρ = .ok (.lst true (xs.map e)) ρ1 := by
  have := lc_map (p := fun _ => true) (c := fYes) (f := f) (e := e) hi him hl fun x hx => by
    obtain ⟨ρ2, h1, ρ4, h2, h3⟩ := h x hx
    exact ⟨ρ2, h1, ρ2, rfl, fun _ => ⟨ρ4, h2, h3⟩, fun z => by cases z⟩
  rw [List.filter_eq_self.mpr (fun _ _ => rfl)] at this
  exact this
@[simp] theorem wipe_nil {ρ : Ev} : wipeE ρ [] = ρ := (rfl)
@[simp] theorem wipe_cons {ρ : Ev} {v vs} : wipeE ρ (v :: vs) = (wipeE ρ vs).set v none := (rfl)
@[simp] theorem immAt_nil {ρ : Ev} : immAt ρ [] = true := (rfl)
def immO (o : Option (Option D)) : Bool := match o with
  | some (some d) => isImm d
  | _ => true
@[simp] theorem immO_n : immO (some none) = true := (rfl)
@[simp] theorem immO_s {d : D} : immO (some (some d)) = isImm d := (rfl)
@[simp] theorem immAt_cons {ρ : Ev} {v vs} : immAt ρ (v :: vs) = (immO ρ[v]? && immAt ρ vs) := by
  unfold immAt immO; rw [List.all_cons]; try rfl
end Hap
namespace Hap
open PySem PySem.Spec PyProof.Rows L2
theorem kit_NoneType_bool : kitB "NoneType" "bool" = some false := by decide +kernel
theorem kit_NoneType_int : kitB "NoneType" "int" = some false := by decide +kernel
theorem kit_NoneType_list : kitB "NoneType" "list" = some false := by decide +kernel
theorem kit_NoneType_str : kitB "NoneType" "str" = some false := by decide +kernel
theorem kit_NoneType_tuple : kitB "NoneType" "tuple" = some false := by decide +kernel
theorem kit_bool_bool : kitB "bool" "bool" = some true := by decide +kernel
theorem kit_bool_int : kitB "bool" "int" = some true := by decide +kernel
theorem kit_bool_list : kitB "bool" "list" = some false := by decide +kernel
theorem kit_bool_str : kitB "bool" "str" = some false := by decide +kernel
theorem kit_bool_tuple : kitB "bool" "tuple" = some false := by decide +kernel
theorem kit_int_bool : kitB "int" "bool" = some false := by decide +kernel
theorem kit_int_int : kitB "int" "int" = some true := by decide +kernel
theorem kit_int_list : kitB "int" "list" = some false := by decide +kernel
theorem kit_int_str : kitB "int" "str" = some false := by decide +kernel
theorem kit_int_tuple : kitB "int" "tuple" = some false := by decide +kernel
theorem kit_list_bool : kitB "list" "bool" = some false := by decide +kernel
theorem kit_list_int : kitB "list" "int" = some false := by decide +kernel
theorem kit_list_list : kitB "list" "list" = some true := by decide +kernel
theorem kit_list_str : kitB "list" "str" = some false := by decide +kernel
theorem kit_list_tuple : kitB "list" "tuple" = some false := by decide +kernel
theorem kit_str_bool : kitB "str" "bool" = some false := by decide +kernel
theorem kit_str_int : kitB "str" "int" = some false := by decide +kernel
theorem kit_str_list : kitB "str" "list" = some false := by decide +kernel
theorem kit_str_str : kitB "str" "str" = some true := by decide +kernel
theorem kit_str_tuple : kitB "str" "tuple" = some false := by decide +kernel
theorem kit_tuple_bool : kitB "tuple" "bool" = some false := by decide +kernel
theorem kit_tuple_int : kitB "tuple" "int" = some false := by decide +kernel
theorem kit_tuple_list : kitB "tuple" "list" = some false := by decide +kernel
theorem kit_tuple_str : kitB "tuple" "str" = some false := by decide +kernel
theorem kit_tuple_tuple : kitB "tuple" "tuple" = some true := by decide +kernel
@[simp] theorem isi_non_int : gIsi [.non, .gv (.ty "int")] = some (.bl false) := by show (kitB "NoneType" "int").map D.bl = _; rw [kit_NoneType_int]; rfl
@[simp] theorem isi_bl_int {b : Bool} : gIsi [(.bl b), .gv (.ty "int")] = some (.bl true) := by show (kitB "bool" "int").map D.bl = _; rw [kit_bool_int]; rfl
@[simp] theorem isi_int_int {i : Int} : gIsi [(.int i), .gv (.ty "int")] = some (.bl true) := by show (kitB "int" "int").map D.bl = _; rw [kit_int_int]; rfl
@[simp] theorem isi_str_int {x : Str} : gIsi [(.str x), .gv (.ty "int")] = some (.bl false) := by show (kitB "str" "int").map D.bl = _; rw [kit_str_int]; rfl
@[simp] theorem isi_lst_int {o : Bool} {xs : List D} : gIsi [(.lst o xs), .gv (.ty "int")] = some (.bl false) := by show (kitB "list" "int").map D.bl = _; rw [kit_list_int]; rfl
@[simp] theorem isi_tup_int {xs : List D} : gIsi [(.tup xs), .gv (.ty "int")] = some (.bl false) := by show (kitB "tuple" "int").map D.bl = _; rw [kit_tuple_int]; rfl
@[simp] theorem isi_rol_int {xs : List D} : gIsi [(.rol xs), .gv (.ty "int")] = some (.bl false) := by show (kitB "list" "int").map D.bl = _; rw [kit_list_int]; rfl
@[simp] theorem isi_non_bool : gIsi [.non, .gv (.ty "bool")] = some (.bl false) := by show (kitB "NoneType" "bool").map D.bl = _; rw [kit_NoneType_bool]; rfl
@[simp] theorem isi_bl_bool {b : Bool} : gIsi [(.bl b), .gv (.ty "bool")] = some (.bl true) := by show (kitB "bool" "bool").map D.bl = _; rw [kit_bool_bool]; rfl
@[simp] theorem isi_int_bool {i : Int} : gIsi [(.int i), .gv (.ty "bool")] = some (.bl false) := by show (kitB "int" "bool").map D.bl = _; rw [kit_int_bool]; rfl
@[simp] theorem isi_str_bool {x : Str} : gIsi [(.str x), .gv (.ty "bool")] = some (.bl false) := by show (kitB "str" "bool").map D.bl = _; rw [kit_str_bool]; rfl
@[simp] theorem isi_lst_bool {o : Bool} {xs : List D} : gIsi [(.lst o xs), .gv (.ty "bool")] = some (.bl false) := by show (kitB "list" "bool").map D.bl = _; rw [kit_list_bool]; rfl
@[simp] theorem isi_tup_bool {xs : List D} : gIsi [(.tup xs), .gv (.ty "bool")] = some (.bl false) := by show (kitB "tuple" "bool").map D.bl = _; rw [kit_tuple_bool]; rfl
@[simp] theorem isi_rol_bool {xs : List D} : gIsi [(.rol xs), .gv (.ty "bool")] = some (.bl false) := by show (kitB "list" "bool").map D.bl = _; rw [kit_list_bool]; rfl
@[simp] theorem isi_non_str : gIsi [.non, .gv (.ty "str")] = some (.bl false) := by show (kitB "NoneType" "str").map D.bl = _; rw [kit_NoneType_str]; rfl
@[simp] theorem isi_bl_str {b : Bool} : gIsi [(.bl b), .gv (.ty "str")] = some (.bl false) := by show (kitB "bool" "str").map D.bl = _; rw [kit_bool_str]; rfl
@[simp] theorem isi_int_str {i : Int} : gIsi [(.int i), .gv (.ty "str")] = some (.bl false) := by show (kitB "int" "str").map D.bl = _; rw [kit_int_str]; rfl
@[simp] theorem isi_str_str {x : Str} : gIsi [(.str x), .gv (.ty "str")] = some (.bl true) := by show (kitB "str" "str").map D.bl = _; rw [kit_str_str]; rfl
@[simp] theorem isi_lst_str {o : Bool} {xs : List D} : gIsi [(.lst o xs), .gv (.ty "str")] = some (.bl false) := by show (kitB "list" "str").map D.bl = _; rw [kit_list_str]; rfl
@[simp] theorem isi_tup_str {xs : List D} : gIsi [(.tup xs), .gv (.ty "str")] = some (.bl false) := by show (kitB "tuple" "str").map D.bl = _; rw [kit_tuple_str]; rfl
@[simp] theorem isi_rol_str {xs : List D} : gIsi [(.rol xs), .gv (.ty "str")] = some (.bl false) := by show (kitB "list" "str").map D.bl = _; rw [kit_list_str]; rfl
@[simp] theorem isi_non_list : gIsi [.non, .gv (.ty "list")] = some (.bl false) := by show (kitB "NoneType" "list").map D.bl = _; rw [kit_NoneType_list]; rfl
@[simp] theorem isi_bl_list {b : Bool} : gIsi [(.bl b), .gv (.ty "list")] = some (.bl false) := by show (kitB "bool" "list").map D.bl = _; rw [kit_bool_list]; rfl
@[simp] theorem isi_int_list {i : Int} : gIsi [(.int i), .gv (.ty "list")] = some (.bl false) := by show (kitB "int" "list").map D.bl = _; rw [kit_int_list]; rfl
@[simp] theorem isi_str_list {x : Str} : gIsi [(.str x), .gv (.ty "list")] = some (.bl false) := by show (kitB "str" "list").map D.bl = _; rw [kit_str_list]; rfl
@[simp] theorem isi_lst_list {o : Bool} {xs : List D} : gIsi [(.lst o xs), .gv (.ty "list")] = some (.bl true) := by show (kitB "list" "list").map D.bl = _; rw [kit_list_list]; rfl
@[simp] theorem isi_tup_list {xs : List D} : gIsi [(.tup xs), .gv (.ty "list")] = some (.bl false) := by show (kitB "tuple" "list").map D.bl = _; rw [kit_tuple_list]; rfl
@[simp] theorem isi_rol_list {xs : List D} : gIsi [(.rol xs), .gv (.ty "list")] = some (.bl true) := by show (kitB "list" "list").map D.bl = _; rw [kit_list_list]; rfl
@[simp] theorem isi_non_tuple : gIsi [.non, .gv (.ty "tuple")] = some (.bl false) := by show (kitB "NoneType" "tuple").map D.bl = _; rw [kit_NoneType_tuple]; rfl
@[simp] theorem isi_bl_tuple {b : Bool} : gIsi [(.bl b), .gv (.ty "tuple")] = some (.bl false) := by show (kitB "bool" "tuple").map D.bl = _; rw [kit_bool_tuple]; rfl
@[simp] theorem isi_int_tuple {i : Int} : gIsi [(.int i), .gv (.ty "tuple")] = some (.bl false) := by show (kitB "int" "tuple").map D.bl = _; rw [kit_int_tuple]; rfl
@[simp] theorem isi_str_tuple {x : Str} : gIsi [(.str x), .gv (.ty "tuple")] = some (.bl false) := by show (kitB "str" "tuple").map D.bl = _; rw [kit_str_tuple]; rfl
@[simp] theorem isi_lst_tuple {o : Bool} {xs : List D} : gIsi [(.lst o xs), .gv (.ty "tuple")] = some (.bl false) := by show (kitB "list" "tuple").map D.bl = _; rw [kit_list_tuple]; rfl
@[simp] theorem isi_tup_tuple {xs : List D} : gIsi [(.tup xs), .gv (.ty "tuple")] = some (.bl true) := by show (kitB "tuple" "tuple").map D.bl = _; rw [kit_tuple_tuple]; rfl
@[simp] theorem isi_rol_tuple {xs : List D} : gIsi [(.rol xs), .gv (.ty "tuple")] = some (.bl false) := by show (kitB "list" "tuple").map D.bl = _; rw [kit_list_tuple]; rfl
theorem loopL {α : Type} {step : D → Ev → RS} {f : α → D} (I : List α → Ev → Prop) (xs : List α) (ρ : Ev) (h : I xs ρ) (hs : ∀ x xs ρ, I (x :: xs) ρ → ∃ ρ', step (f x) ρ = .nx ρ' ∧ I xs ρ') : ∃ ρ', loopS step (xs.map f) ρ = .nx ρ' ∧ I [] ρ' := by
  rcases loopT (T := fun _ _ => False) I xs ρ h (fun x xs ρ hI => .inl (hs x xs ρ hI)) with h | ⟨_, _, _, h⟩
  · exact h
  · exact h.elim
end Hap
namespace Hap
open PySem PySem.Spec PyProof.Rows L2
def Sh (n : Nat) (d : D) : Prop := (toPy d).canLay0 = true ∧ (toPy d).depth ≤ n
def EqD {α : Type} [DecidableEq α] (f : α → D) : Prop := ∀ x y, PyData.eqv (toPy (f x)) (toPy (f y)) = decide (x = y)
section
variable {α : Type} [DecidableEq α] {f : α → D} {n : Nat} {o o' : Bool}
theorem Sh.shaped {d : D} (h : Sh n d) (hn : n ≤ 64) : SeqAt.shaped (toPy d) = true := by
  unfold SeqAt.shaped; rw [h.1, decide_eq_true (Nat.le_trans h.2 hn)]; rfl
theorem Sh.mono {m : Nat} {d : D} (h : Sh n d) (l : n ≤ m) : Sh m d := ⟨h.1, Nat.le_trans h.2 l⟩
theorem sh_int {i} : Sh n (.int i) := ⟨by simp [toPy, PyData.canLay0], by simp [toPy, PyData.depth]⟩
theorem sh_str {x : Str} (h : ∀ c ∈ x.cps.toList, c < 0x110000) : Sh n (.str x) := ⟨by
  simp only [toPy, PyData.canLay0, PyData.strOk, Array.all_eq_true']
  intro c hc; exact decide_eq_true (h c (by simpa using hc)), by simp [toPy, PyData.depth]⟩
theorem shs {ds : List D} (h : ∀ d ∈ ds, Sh n d) : PyData.canLayAll0 (toPys ds) = true ∧ PyData.depthAll (toPys ds) ≤ n := by
  induction ds with
  | nil => simp [toPys, PyData.canLayAll0, PyData.depthAll]
  | cons d ds ih =>
    obtain ⟨h1, h2⟩ := ih fun d hd => h d (List.mem_cons_of_mem _ hd)
    obtain ⟨h3, h4⟩ := h d List.mem_cons_self
    simp only [toPys, PyData.canLayAll0, PyData.depthAll, h3, h1, Bool.and_self, true_and]
    omega
theorem sh_lst {ds : List D} (h : ∀ d ∈ ds, Sh n d) : Sh (n + 1) (.lst o ds) := by
  obtain ⟨h1, h2⟩ := shs h
  exact ⟨by simp only [toPy, PyData.canLay0, h1], by simp only [toPy, PyData.depth]; omega⟩
theorem eqd_all (E : EqD f) : ∀ xs ys : List α, PyData.eqvAll (toPys (xs.map f)) (toPys (ys.map f)) = decide (xs = ys)
  | [], [] => by simp [toPys, PyData.eqvAll]
  | [], _ :: _ => by simp [toPys, PyData.eqvAll]
  | _ :: _, [] => by simp [toPys, PyData.eqvAll]
  | x :: xs, y :: ys => by
    simp only [List.map_cons, toPys, PyData.eqvAll, eqd_all E xs ys, E x y]
    by_cases h : x = y <;> by_cases h' : xs = ys <;> simp [h, h']
theorem eqd_nat : EqD fun x : Nat => D.int (x : Int) := fun x y => by
  simp only [toPy, PyData.eqv]
  by_cases h : x = y
  · simp [h]
  · have : ¬ (x : Int) = (y : Int) := by omega
    simp [h, this]
theorem eq_map {xs ys : List α} (E : EqD f) (hx : ∀ x ∈ xs, Sh 60 (f x)) (hy : ∀ x ∈ ys, Sh 60 (f x)) : gEq (.lst o (xs.map f)) (.lst o' (ys.map f)) = some (.bl (decide (xs = ys))) := by
  have h1 : Sh 61 (.lst o (xs.map f)) := sh_lst fun d hd => by obtain ⟨x, hx', rfl⟩ := List.mem_map.mp hd; exact hx x hx'
  have h2 : Sh 61 (.lst o' (ys.map f)) := sh_lst fun d hd => by obtain ⟨x, hx', rfl⟩ := List.mem_map.mp hd; exact hy x hx'
  unfold gEq
  dsimp only
  rw [if_pos ⟨h1.shaped (by omega), h2.shaped (by omega)⟩]
  simp only [toPy, PyData.eqv, eqd_all E]
theorem any_map {xs : List α} {z : α} (E : EqD f) : ((toPys (xs.map f)).any fun u => PyData.eqv u (toPy (f z))) = decide (z ∈ xs) := by
  induction xs with
  | nil => simp [toPys]
  | cons x xs ih =>
    rw [List.map_cons, toPys, List.any_cons, ih, E x z]
    by_cases h : x = z
    · simp [h]
    · have : ¬ z = x := fun e => h e.symm
      simp [h, this]
theorem in_map {xs : List α} {z : α} (E : EqD f) (hz : Sh 60 (f z)) (hx : ∀ x ∈ xs, Sh 60 (f x)) : gIn (f z) (.lst o (xs.map f)) = some (.bl (decide (z ∈ xs))) := by
  have h1 : Sh 61 (.lst o (xs.map f)) := sh_lst fun d hd => by obtain ⟨x, hx', rfl⟩ := List.mem_map.mp hd; exact hx x hx'
  have h1' := h1.shaped (by omega)
  simp only [toPy] at h1'
  unfold gIn gInB
  dsimp only
  rw [if_pos ⟨hz.shaped (by omega), h1'⟩, any_map E]; rfl
theorem idx_map {xs : List α} {z : α} {i : Nat} (E : EqD f) (hx : ∀ x ∈ xs, Sh 60 (f x)) (hi : xs[i]? = some z) (nd : xs.Nodup) : gIndex (.lst o (xs.map f)) [f z] = some (.int (i : Int)) := by
  have hz : z ∈ xs := List.mem_of_getElem? hi
  have h1 : Sh 61 (.lst o (xs.map f)) := sh_lst fun d hd => by obtain ⟨x, hx', rfl⟩ := List.mem_map.mp hd; exact hx x hx'
  have h1' := h1.shaped (by omega)
  simp only [toPy] at h1'
  have key : ∀ (xs : List α) (i : Nat), xs[i]? = some z → xs.Nodup → idxP (toPy (f z)) (toPys (xs.map f)) = some i := by
    intro xs
    induction xs with
    | nil => intro i h; simp at h
    | cons x xs ih =>
      intro i h nd
      rw [List.map_cons, toPys, idxP, E x z]
      cases i with
      | zero => simp at h; subst h; simp
      | succ i =>
        have h' : xs[i]? = some z := by simpa using h
        have hne : ¬ x = z := fun e => by subst e; exact (List.nodup_cons.mp nd).1 (List.mem_of_getElem? h')
        rw [if_neg (by simpa using hne), ih i h' (List.nodup_cons.mp nd).2]; rfl
  unfold gIndex
  rw [lstOf_l]
  show (if _ then _ else _) = _
  rw [if_pos ⟨(hx z hz).shaped (by omega), h1'⟩, key xs i hi nd]; rfl
end
theorem boolsD_map {α : Type} (p : α → Bool) : ∀ xs : List α, boolsD (xs.map fun x => .bl (p x)) = some (xs.map p)
  | [] => rfl
  | x :: xs => by rw [List.map_cons, boolsD, boolsD_map p xs]; rfl
theorem intsD_map {α : Type} (p : α → Int) : ∀ xs : List α, intsD (xs.map fun x => .int (p x)) = some (xs.map p)
  | [] => rfl
  | x :: xs => by rw [List.map_cons, intsD, intsD_map p xs]; rfl
theorem any_map_bl {α : Type} {o : Bool} (p : α → Bool) (xs : List α) : gAny [.lst o (xs.map fun x => .bl (p x))] = some (.bl (xs.any p)) := by
  rw [any_l, boolsD_map]; simp
theorem all_map_bl {α : Type} {o : Bool} (p : α → Bool) (xs : List α) : gAll [.lst o (xs.map fun x => .bl (p x))] = some (.bl (xs.all p)) := by
  rw [all_l, boolsD_map]; simp
end Hap
namespace Hap
open PySem PySem.Spec PyProof.Rows L2
variable [TabC]
omit [TabC] in
mutual
theorem rl_frzV {z : Bool} {K : PySem.W.Frag} {P P' : AS} {H : Hp} {F F' : AS} {d : D} {v : V} (h : Rl false K P H d v F) (hP : ∀ b, H b ≠ none → P' b) : Rl z K P' H (frz d) v F' := by
  cases h with
  | non => exact .non
  | bl => exact .bl
  | int => exact .int
  | str => exact .str
  | lstO e f s r => exact .lstI e (hP _ (by rw [e]; simp)) (isImms_frzs _) (rls_frzV r hP)
  | lstI e p i r => exact .lstI e (hP _ (by rw [e]; simp)) (isImms_frzs _) (rls_frzV r hP)
  | tup e p r => exact .tup e (hP _ (by rw [e]; simp)) (rls_frzV r hP)
  | dctO e k l f s r => exact .dctI (.inl e) k l (hP _ (by rw [e]; simp)) (isImms_frzs _) (rls_frzV r hP)
  | dctI e k l p i r => exact .dctI e k l (hP _ (by rcases e with e | ⟨o, e⟩ <;> rw [e] <;> simp)) (isImms_frzs _) (rls_frzV r hP)
  | dcTO e k l f s r => exact .dcTI (.inl e) k l (hP _ (by rw [e]; simp)) (isImms_frzs _) (rls_frzV r hP)
  | dcTI e k l p i r => exact .dcTI e k l (hP _ (by rcases e with e | ⟨o, e⟩ <;> rw [e] <;> simp)) (isImms_frzs _) (rls_frzV r hP)
  | rol e i r =>
    refine .rol ?_ (isImms_frzs _) (rls_frzV r hP)
    rcases e with ⟨_, e | ⟨o, e⟩⟩ | e
    · exact .inl ⟨hP _ (by rw [e]; simp), .inl e⟩
    · exact .inl ⟨hP _ (by rw [e]; simp), .inr ⟨o, e⟩⟩
    · exact .inr e
  | gv => exact .gv
  | objO e k l f s r => exact .objI e k l (hP _ (by rw [e]; simp)) (isImms_frzs _) (rls_frzV r hP)
  | objI e k l p i r => exact .objI e k l (hP _ (by rw [e]; simp)) (isImms_frzs _) (rls_frzV r hP)
theorem rls_frzV {z : Bool} {K : PySem.W.Frag} {P P' : AS} {H : Hp} {F F' : AS} {ds : List D} {vs : List V} (h : Rls false K P H ds vs F) (hP : ∀ b, H b ≠ none → P' b) : Rls z K P' H (frzs ds) vs F' := by
  cases h with
  | nil => exact .nil
  | cons r rs s1 s2 dj => exact .cons (F1 := fun _ => False) (F2 := fun _ => False) (rl_frzV r hP) (rls_frzV rs hP) (fun b q => q.elim) (fun b q => q.elim) fun _ q => q.elim
end
mutual
/-- every node one's own -/
def ownAll : D → Bool
  | .lst o xs => o && ownAlls xs
  | .dct o _ xs => o && ownAlls xs
  | .dcT o _ xs => o && ownAlls xs
  | .tup _ => false
  | .rol _ => false
  | .gv _ => false
  | .obj _ _ _ _ => false
  | _ => true
def ownAlls : List D → Bool
  | [] => true
  | d :: ds => ownAll d && ownAlls ds
end
omit [TabC] in
mutual
theorem rl_ownAll {K : PySem.W.Frag} {P P' : AS} {H : Hp} {F : AS} {d : D} {v : V} (h : Rl true K P H d v F) (o : ownAll d = true) : Rl true K P' H d v F := by
  cases h with
  | non => exact .non
  | bl => exact .bl
  | int => exact .int
  | str => exact .str
  | lstO e f s r => exact .lstO e f s (rls_ownAll r (by simpa [ownAll] using o))
  | lstI e p i r => simp [ownAll] at o
  | tup e p r => simp [ownAll] at o
  | dctO e k l f s r => exact .dctO e k l f s (rls_ownAll r (by simpa [ownAll] using o))
  | dctI e k l p i r => simp [ownAll] at o
  | dcTO e k l f s r => exact .dcTO e k l f s (rls_ownAll r (by simpa [ownAll] using o))
  | dcTI e k l p i r => simp [ownAll] at o
  | rol e i r => simp [ownAll] at o
  | gv => simp [ownAll] at o
  | objO e k l f s r => simp [ownAll] at o
  | objI e k l p i r => simp [ownAll] at o
theorem rls_ownAll {K : PySem.W.Frag} {P P' : AS} {H : Hp} {F : AS} {ds : List D} {vs : List V} (h : Rls true K P H ds vs F) (o : ownAlls ds = true) : Rls true K P' H ds vs F := by
  cases h with
  | nil => exact .nil
  | cons r rs s1 s2 dj =>
    simp [ownAlls] at o
    exact .cons (rl_ownAll r o.1) (rls_ownAll rs o.2) s1 s2 dj
end
def vRes (r : RF) : Option D := match r with
  | .rt d _ => if flatD d = true then some d else none
  | _ => none
def oRes (r : RF) (ρ : Ev) : R D := match r with
  | .rt d _ => if ownAll d = true then .ok d ρ else .stk
  | _ => .stk
def vCall (n : Nat) (sem : Fn) (fa : Ev → Option (List D)) : Ev → Option D := fun ρ => (fa ρ).bind fun ds => if ds.length = n then vRes (sem (frzs ds)) else none
def fCallO (n : Nat) (sem : Fn) (fa : Ev → Option (List D)) : Ev → R D := fun ρ => match fa ρ with
  | some ds => if ds.length = n then oRes (sem (frzs ds)) ρ else .stk
  | none => .stk
section
variable {ρ : Ev} {d : D} {o : Ev}
omit [TabC] in
@[simp] theorem vRes_rt : vRes (.rt d o) = if flatD d = true then some d else none := (rfl)
omit [TabC] in
@[simp] theorem oRes_rt : oRes (.rt d o) ρ = if ownAll d = true then .ok d ρ else .stk := (rfl)
omit [TabC] in
@[simp] theorem ap_vcall {n sem fa} : vCall n sem fa ρ = (fa ρ).bind fun ds => if ds.length = n then vRes (sem (frzs ds)) else none := (rfl)
def fromV (x : Option (List D)) (k : List D → R D) : R D := match x with
  | some ds => k ds
  | none => .stk
omit [TabC] in
@[simp] theorem fromV_s {ds : List D} {k} : fromV (some ds) k = k ds := (rfl)
omit [TabC] in
@[simp] theorem ap_callO {n sem fa} : fCallO n sem fa ρ = fromV (fa ρ) fun ds => if ds.length = n then oRes (sem (frzs ds)) ρ else .stk := by unfold fCallO fromV; rfl
omit [TabC] in
@[simp] theorem flat_int {i} : flatD (.int i) = true := (rfl)
omit [TabC] in
@[simp] theorem flat_bl {i} : flatD (.bl i) = true := (rfl)
omit [TabC] in
@[simp] theorem flat_str {i} : flatD (.str i) = true := (rfl)
omit [TabC] in
@[simp] theorem flat_non : flatD .non = true := (rfl)
omit [TabC] in
@[simp] theorem own_int {i} : ownAll (.int i) = true := (rfl)
omit [TabC] in
@[simp] theorem own_bl {i} : ownAll (.bl i) = true := (rfl)
omit [TabC] in
@[simp] theorem own_str {i} : ownAll (.str i) = true := (rfl)
omit [TabC] in
@[simp] theorem own_non : ownAll .non = true := (rfl)
omit [TabC] in
@[simp] theorem own_lst {xs} : ownAll (.lst true xs) = ownAlls xs := (by simp [ownAll])
end
def hd1 (outs : Ev) : Option D := match outs[1]? with
  | some o => o
  | none => none
def fCallIO1 (j : Nat) (sem : Fn) (f1 : Ev → R D) : Ev → R D := fun ρ => (f1 ρ).bind fun d ρ1 => match ρ1[j]? with
  | some (some d0) => callR (sem [frz d, d0]) ρ1 fun outs => ρ1.set j (hd1 outs)
  | _ => .stk
def fOpNV (g : List D → Option D) (fa : Ev → Option (List D)) : Ev → R D := fun ρ => R.of ((fa ρ).bind g) ρ
section
variable {ρ : Ev}
omit [TabC] in
@[simp] theorem ap_opNV {g fa} : fOpNV g fa ρ = R.of ((fa ρ).bind g) ρ := (rfl)
omit [TabC] in
@[simp] theorem hd1_c {a b : Option D} {os : Ev} : hd1 (a :: b :: os) = b := (rfl)
omit [TabC] in
@[simp] theorem ap_callIO1 {j sem f1} : fCallIO1 j sem f1 ρ = (f1 ρ).bind fun d ρ1 => isS ρ1[j]? fun d0 => callR (sem [frz d, d0]) ρ1 fun outs => ρ1.set j (hd1 outs) := by unfold fCallIO1 isS; rfl
end
def fClear (i : Nat) : Ev → RS := fun ρ => match ρ[i]? with
  | some (some (.lst true _)) => .nx (ρ.set i (some (.lst true [])))
  | _ => .stk
def fExtend (i : Nat) (f : Ev → R (List D)) : Ev → RS := fun ρ => match ρ[i]? with
  | some (some (.lst _ _)) => RS.of (f ρ) fun ds ρ1 => (match ds with
    | [.lst o zs] => (match ρ1[i]? with
      | some (some (.lst true xs)) => if xs.length + zs.length ≤ sizeLine then .nx (ρ1.set i (some (.lst true (xs ++ zs)))) else .stk
      | _ => .stk)
    | _ => .stk)
  | _ => .stk
def clrS (o : Option (Option D)) (i : Nat) (ρ : Ev) : RS := match o with
  | some (some (.lst true _)) => .nx (ρ.set i (some (.lst true [])))
  | _ => .stk
def extS (o : Option (Option D)) (i : Nat) (ds : List D) (ρ : Ev) : RS := match ds with
  | [.lst _ zs] => (match o with
      | some (some (.lst true xs)) => if xs.length + zs.length ≤ sizeLine then .nx (ρ.set i (some (.lst true (xs ++ zs)))) else .stk
      | _ => .stk)
  | _ => .stk
section
variable {ρ : Ev} {xs zs : List D} {i : Nat} {o : Bool}
omit [TabC] in
@[simp] theorem clrS_s : clrS (some (some (.lst true xs))) i ρ = .nx (ρ.set i (some (.lst true []))) := (rfl)
omit [TabC] in
@[simp] theorem ap_clear : fClear i ρ = clrS ρ[i]? i ρ := by unfold fClear clrS; rfl
omit [TabC] in
@[simp] theorem extS_s : extS (some (some (.lst true xs))) i [.lst o zs] ρ = if xs.length + zs.length ≤ sizeLine then .nx (ρ.set i (some (.lst true (xs ++ zs)))) else .stk := (rfl)
omit [TabC] in
@[simp] theorem ap_extend {f} : fExtend i f ρ = isLs ρ[i]? (RS.of (f ρ) fun ds ρ1 => extS ρ1[i]? i ds ρ1) := by unfold fExtend isLs extS; rfl
end
end Hap
namespace Hap
open PySem PySem.Spec PyProof.Rows L2
variable [TabC]
omit [TabC] in
theorem nodup_sub_len {α : Type} [DecidableEq α] : ∀ {xs ys : List α}, xs.Nodup → (∀ k ∈ xs, k ∈ ys) → xs.length ≤ ys.length
  | [], _, _, _ => by simp
  | x :: xs, ys, nd, h => by
    have nd' := List.nodup_cons.mp nd
    have hx := h x List.mem_cons_self
    have := nodup_sub_len (ys := ys.erase x) nd'.2 fun k hk => (List.mem_erase_of_ne (fun e => nd'.1 (by rw [← e]; exact hk))).mpr (h k (List.mem_cons_of_mem _ hk))
    rw [List.length_erase_of_mem hx] at this
    have := List.length_pos_of_mem hx
    rw [List.length_cons]; omega
end Hap
namespace Hap
open PySem PySem.Spec PyProof.Rows L2
variable [TabC]
def fCallF (n : Nat) (sem : Fn) (fa : Ev → R (List D)) : Ev → R D := fun ρ => (fa ρ).bind fun ds ρ1 => match ds with
  | d0 :: ds' => if ds'.length + 1 = n then callR (sem (d0 :: frzs ds')) ρ1 fun _ => ρ1 else .stk
  | [] => .stk
def apF (sem : Fn) (n : Nat) (ds : List D) (ρ1 : Ev) : R D := match ds with
  | d0 :: ds' => if ds'.length + 1 = n then callR (sem (d0 :: frzs ds')) ρ1 fun _ => ρ1 else .stk
  | [] => .stk
omit [TabC] in
@[simp] theorem apF_c {sem : Fn} {n : Nat} {d0 : D} {ds : List D} {ρ : Ev} : apF sem n (d0 :: ds) ρ = if ds.length + 1 = n then callR (sem (d0 :: frzs ds)) ρ fun _ => ρ else .stk := (rfl)
omit [TabC] in
@[simp] theorem ap_callF {n : Nat} {sem : Fn} {fa : Ev → R (List D)} {ρ : Ev} : fCallF n sem fa ρ = (fa ρ).bind fun ds ρ1 => apF sem n ds ρ1 := by
  unfold fCallF apF; rfl
def revS (z : Str) : Str := ⟨z.cps.toList.reverse.toArray⟩
def gRevS (d : D) : Option D := match d with
  | .str z => if z.length ≤ sizeLine then some (.str (revS z)) else none
  | _ => none
omit [TabC] in
@[simp] theorem revS_s {z : Str} : gRevS (.str z) = if z.length ≤ sizeLine then some (.str (revS z)) else none := (rfl)
def leS (a b : Str) : Prop := ¬ b.cps.toList < a.cps.toList
def insS (x : Str) : List Str → List Str
  | [] => [x]
  | y :: ys => if y.cps.toList < x.cps.toList then y :: insS x ys else x :: y :: ys
def sortS (xs : List Str) : List Str := xs.foldr insS []
omit [TabC] in
theorem leS_trans {a b c : Str} (h1 : leS a b) (h2 : leS b c) : leS a c := fun h => by
  have e1 : a.cps.toList ≤ b.cps.toList := h1
  have e2 : b.cps.toList ≤ c.cps.toList := h2
  exact (List.le_trans e1 e2) h
omit [TabC] in
theorem leS_total {a b : Str} : leS a b ∨ leS b a := List.le_total (l₁ := a.cps.toList) (l₂ := b.cps.toList)
omit [TabC] in
theorem leS_anti {a b : Str} (h1 : leS a b) (h2 : leS b a) : a = b := by
  have := List.le_antisymm (as := a.cps.toList) (bs := b.cps.toList) h1 h2
  cases a; cases b; congr 1; exact Array.toList_inj.mp this
omit [TabC] in
theorem insS_perm (x : Str) : ∀ ys : List Str, (insS x ys).Perm (x :: ys)
  | [] => .refl _
  | y :: ys => by
    rw [insS]
    split
    · exact ((insS_perm x ys).cons y).trans (.swap ..)
    · exact .refl _
theorem sortS_perm : ∀ xs : List Str, (sortS xs).Perm xs
  | [] => .refl _
  | x :: xs => (insS_perm x _).trans ((sortS_perm xs).cons x)
theorem insS_sorted (x : Str) : ∀ ys : List Str, ys.Pairwise leS → (insS x ys).Pairwise leS
  | [], _ => by simp [insS]
  | y :: ys, h => by
    rw [List.pairwise_cons] at h
    rw [insS]
    split
    · rename_i c
      rw [List.pairwise_cons]
      refine ⟨fun z hz => ?_, insS_sorted x ys h.2⟩
      rcases List.mem_cons.mp ((insS_perm x ys).mem_iff.mp hz) with rfl | hz
      · exact (leS_total (a := y) (b := z)).elim id fun q => (q c).elim
      · exact h.1 z hz
    · rename_i c
      rw [List.pairwise_cons, List.pairwise_cons]
      refine ⟨fun z hz => ?_, h⟩
      rcases List.mem_cons.mp hz with rfl | hz
      · exact c
      · exact leS_trans c (h.1 z hz)
theorem sortS_sorted : ∀ xs : List Str, (sortS xs).Pairwise leS
  | [] => .nil
  | x :: xs => insS_sorted x _ (sortS_sorted xs)
theorem sorted_uniq : ∀ {xs ys : List Str}, xs.Perm ys → xs.Pairwise leS → ys.Pairwise leS → xs = ys
  | [], ys, h, _, _ => (List.nil_perm.mp h).symm
  | x :: xs, [], h, _, _ => absurd h (by simp)
  | x :: xs, y :: ys, h, hx, hy => by
    rw [List.pairwise_cons] at hx hy
    have e : x = y := by
      rcases List.mem_cons.mp (h.mem_iff.mp List.mem_cons_self) with e | e
      · exact e
      · rcases List.mem_cons.mp (h.mem_iff.mpr List.mem_cons_self) with e' | e'
        · exact e'.symm
        · exact leS_anti (hx.1 y e') (hy.1 x e)
    subst e
    rw [sorted_uniq h.cons_inv hx.2 hy.2]
theorem risingS_pw : ∀ (l : List Str) (p : Str), risingS p l = true → (p :: l).Pairwise leS
  | [], p, _ => by simp
  | x :: l, p, h => by
    rw [risingS, Bool.and_eq_true] at h
    have ih := risingS_pw l x h.2
    rw [ltCps_eq, Bool.not_eq_true', decide_eq_false_iff_not] at h
    rw [List.pairwise_cons]
    refine ⟨fun z hz => ?_, ih⟩
    rcases List.mem_cons.mp hz with rfl | hz
    · exact h.1
    · exact leS_trans h.1 ((List.pairwise_cons.mp ih).1 z hz)
theorem sortedS_pw : ∀ l : List Str, sortedS l = true → l.Pairwise leS
  | [], _ => .nil
  | x :: l, h => risingS_pw l x h
omit [TabC] in
theorem rls_strs {z : Bool} {K : PySem.W.Frag} {P : AS} {H : Hp} {F : AS} : ∀ xs : List Str, Rls z K P H (xs.map D.str) (xs.map V.str) F
  | [] => .nil
  | n :: ns => .cons (F1 := fun _ => False) (F2 := fun _ => False) .str (rls_strs ns) (fun b z => z.elim) (fun b z => z.elim) fun b z => z.elim
end Hap
namespace Hap
open PySem PySem.Spec PyProof.Rows L2 PySem.W
variable [TabC]
def fuel : Nat := 1000000
omit [TabC] in
theorem while_goes {c : Ev → R Bool} {g : Ev → RS} (I : Nat → Ev → Prop) (N : Ev → Prop) (T : D → Ev → Prop) (hs : ∀ m ρ, I m ρ → (∃ ρ1, c ρ = .ok false ρ1 ∧ N ρ1) ∨ ∃ ρ1, c ρ = .ok true ρ1 ∧ ((∃ ρ2 m', g ρ1 = .nx ρ2 ∧ m' < m ∧ I m' ρ2) ∨ ∃ d ρ2, g ρ1 = .rt d ρ2 ∧ T d ρ2)) :
    ∀ (n m : Nat) (ρ : Ev), I m ρ → m < n → Goes N T (whileS c g n ρ)
  | 0, m, ρ, _, h => absurd h (by omega)
  | n + 1, m, ρ, hI, h => by
    rw [whileS]
    rcases hs m ρ hI with ⟨ρ1, e1, h1⟩ | ⟨ρ1, e1, h1⟩
    · rw [e1]; exact .inl ⟨ρ1, rfl, h1⟩
    · rw [e1]
      rcases h1 with ⟨ρ2, m', e2, hm, h2⟩ | ⟨d, ρ2, e2, h2⟩
      · simp only [e2]; exact while_goes I N T hs n m' ρ2 h2 (by omega)
      · simp only [e2]; exact .inr ⟨d, ρ2, rfl, h2⟩
theorem while_nx {c : Ev → R Bool} {g : Ev → RS} (I : Nat → Ev → Prop) (N : Ev → Prop) (hs : ∀ m ρ, I m ρ → (∃ ρ1, c ρ = .ok false ρ1 ∧ N ρ1) ∨ ∃ ρ1 ρ2 m', c ρ = .ok true ρ1 ∧ g ρ1 = .nx ρ2 ∧ m' < m ∧ I m' ρ2)
    {m : Nat} {ρ : Ev} (h : I m ρ) (hm : m < fuel) : ∃ ρ', whileS c g fuel ρ = .nx ρ' ∧ N ρ' := by
  rcases while_goes I N (fun _ _ => False) (fun m ρ hI => (hs m ρ hI).imp id fun ⟨ρ1, ρ2, m', a, b, c, d⟩ => ⟨ρ1, a, .inl ⟨ρ2, m', b, c, d⟩⟩) fuel m ρ h hm with h | ⟨_, _, _, h⟩
  · exact h
  · exact h.elim
omit [TabC] in
@[simp] theorem ap_while {n : Nat} {c : Ev → R Bool} {g : Ev → RS} {ρ : Ev} : fWhile n c g ρ = whileS c g n ρ := (rfl)
end Hap
namespace Hap
open PySem PySem.Spec PyProof.Rows L2
variable [TabC]
def frzE (ρ : Ev) : Ev := ρ.map (Option.map frz)
def fLook (f : Ev → R D) : Ev → R D := fun ρ => match f (frzE ρ) with
  | .ok d _ => if ownAll d = true then .ok d ρ else .stk
  | _ => .stk
section
variable {X : Cx} {RX : RXR} {W : WX} {e : Expr}
theorem de_look {f : Ev → R D} (h : DE X RX W e f) : DE X RX W e (fLook f) := by
  refine pe_imp h fun σ H Q q => ?_
  obtain ⟨P, ρ, FE, S, q⟩ := q
  unfold fLook at q
  have S0 : Stt X.K (fun b => H b ≠ none) H (frzE ρ) σ (fun _ => E_) := by
    refine ⟨fun b z => z, fun i b z => z.elim, fun i j b z => z.elim, fun i d e1 => ?_, by unfold frzE; simpa using S.len, TAB.all S.tab.1⟩
    unfold frzE at e1
    rw [List.getElem?_map] at e1
    cases e2 : ρ[i]? with
    | none => rw [e2] at e1; cases e1
    | some o =>
      cases o with
      | none => rw [e2] at e1; cases e1
      | some d0 =>
        rw [e2] at e1
        have e3 : frz d0 = d := Option.some.inj (Option.some.inj e1)
        subst e3
        obtain ⟨v, ev, r⟩ := S.rel i d0 e2
        exact ⟨v, ev, rl_frzV (rl_view (F' := E_) r) fun b z => z⟩
  refine ⟨fun b => H b ≠ none, frzE ρ, fun _ => E_, S0, ?_⟩
  cases e1 : f (frzE ρ) with
  | exc x ρ1 => simp only [e1] at q
  | stk => simp only [e1] at q
  | ok d ρ1 =>
    simp only [e1] at q
    by_cases c : ownAll d = true
    · simp only [if_pos c] at q
      intro v P' H' FE' F S' T t
      have fr : ∀ b o, H b = some o → NT o → H' b = some o := fun b o e => t.frame b o e fun ⟨_, z⟩ => z
      have new : ∀ b, F b → H b = none := fun b z => (t.sub b (.inr z)).elim (fun ⟨_, w⟩ => w.elim) id
      have n : New P H (pinN P H H') H' F := New.pinN fr t.alive S'.tab.1 S.pin fun b z => ⟨new b z, (T.own b z).1, fun w => (T.own b z).2.1 (S'.tab.2 b w)⟩
      exact q v _ H' FE F (n.stt S) (n.tmp S (rl_ownAll T.rl c)) n.tr
    · simp only [if_neg c] at q
end
def lookR (r : R D) (ρ : Ev) : R D := match r with
  | .ok d _ => if ownAll d = true then .ok d ρ else .stk
  | _ => .stk
omit [TabC] in
@[simp] theorem lookR_ok {d : D} {ρ ρ' : Ev} : lookR (.ok d ρ') ρ = if ownAll d = true then .ok d ρ else .stk := (rfl)
omit [TabC] in
@[simp] theorem ap_look {f : Ev → R D} {ρ : Ev} : fLook f ρ = lookR (f (frzE ρ)) ρ := by unfold fLook lookR; rfl
omit [TabC] in
@[simp] theorem frzE_nil : frzE [] = [] := (rfl)
omit [TabC] in
@[simp] theorem frzE_c {o : Option D} {ρ : Ev} : frzE (o :: ρ) = o.map frz :: frzE ρ := (rfl)
end Hap
namespace Hap
open PySem PySem.Spec PyProof.Rows L2
variable [TabC]
mutual
/-- no list or dict in it -/
def noL : D → Bool
  | .lst _ _ => false
  | .dct _ _ _ => false
  | .dcT _ _ _ => false
  | .rol _ => false
  | .gv _ => false
  | .obj _ _ _ _ => false
  | .tup xs => noLs xs
  | _ => true
def noLs : List D → Bool
  | [] => true
  | d :: ds => noL d && noLs ds
end
def tRes (r : RF) (ρ : Ev) : R D := match r with
  | .rt d _ => if noL d = true then .ok d ρ else .stk
  | _ => .stk
def fCallT (n : Nat) (sem : Fn) (fa : Ev → Option (List D)) : Ev → R D := fun ρ => match fa ρ with
  | some ds => if ds.length = n then tRes (sem (frzs ds)) ρ else .stk
  | none => .stk
section
variable {ρ : Ev} {d : D} {o : Ev} {ds : List D}
omit [TabC] in
@[simp] theorem tRes_rt : tRes (.rt d o) ρ = if noL d = true then .ok d ρ else .stk := (rfl)
omit [TabC] in
@[simp] theorem ap_callT {n sem fa} : fCallT n sem fa ρ = fromV (fa ρ) fun ds => if ds.length = n then tRes (sem (frzs ds)) ρ else .stk := by unfold fCallT fromV; rfl
omit [TabC] in
@[simp] theorem noL_non : noL .non = true := (rfl)
omit [TabC] in
@[simp] theorem noL_int {i} : noL (.int i) = true := (rfl)
omit [TabC] in
@[simp] theorem noL_str {i} : noL (.str i) = true := (rfl)
omit [TabC] in
@[simp] theorem noL_bl {i} : noL (.bl i) = true := (rfl)
omit [TabC] in
@[simp] theorem noL_tup : noL (.tup ds) = noLs ds := (by simp [noL])
omit [TabC] in
@[simp] theorem noLs_nil : noLs [] = true := (rfl)
omit [TabC] in
@[simp] theorem noLs_cons : noLs (d :: ds) = (noL d && noLs ds) := (rfl)
end
end Hap
namespace Hap
open PySem PySem.Spec PyProof.Rows L2
end Hap
namespace Hap
open PySem PySem.Spec PyProof.Rows L2
end Hap
namespace Hap
open PySem PySem.Spec PyProof.Rows L2
end Hap
namespace Hap
open PySem PySem.Spec PyProof.Rows L2
variable [TabC]
def keysT (d : D) : Option (List Key) := match d with
  | .tup ds => keysOf ds
  | _ => none
def putD (o : D) (e d : D) : Option D := match o with
  | .dct true ks xs => (match keyOf e with
    | some c => if xs.length < sizeLine then some (.dct true (putKs ks xs c d).1 (putKs ks xs c d).2) else none
    | none => none)
  | .dcT true ks xs => (match keysT e with
    | some c => if xs.length < sizeLine then some (.dcT true (putKs ks xs c d).1 (putKs ks xs c d).2) else none
    | none => none)
  | _ => none
def fPutD (i : Nat) (f k : Ev → R D) : Ev → RS := fun ρ => RS.of (f ρ) fun d ρ1 => match ρ1[i]? with
  | some (some _) => RS.of (k ρ1) fun e ρ2 => (match ρ2[i]? with
    | some (some o) => (match putD o e (frz d) with
      | some o' => .nx (ρ2.set i (some o'))
      | none => .stk)
    | _ => .stk)
  | _ => .stk
omit [TabC] in
theorem Tr.noF {P P' : AS} {H H' : Hp} {U U' : AS} (t : Tr P H (fun b => U b ∨ E_ b) P' H' U') : Tr P H U P' H' U' where
  frame := fun b o e n => t.frame b o e fun z => z.elim n fun w => w.elim
  mono := t.mono
  back := fun b z => (t.back b z).imp id fun w => w.imp (fun u => u.elim id fun w => w.elim) id
  sub := fun b z => (t.sub b z).imp (fun u => u.elim id fun w => w.elim) id
  alive := t.alive
section
variable {X : Cx} {RX : RXR} {W : WX} {kp : List Nat}
theorem ds_putD {s : Stmt} {i : Nat} {f k : Ev → R D} (h : PS X s (tAsg (tE X.K RX W f) (L2.gSub (tVar i) (tE X.K RX W k) rSetD))) : DS X RX W kp s (fPutD i f k) := by
  refine ps_imp h fun D σ H q => ?_
  obtain ⟨P, ρ, FE, S, q⟩ := q
  refine ⟨P, ρ, FE, S, ?_⟩
  unfold fPutD at q
  cases e : f ρ with
  | exc x ρ1 => simp only [e, RS.of] at q; exact fun cls dx P' H' FE' S' t r => q cls dx σ P' H' FE' S' t Kp.refl r
  | stk => simp only [e, RS.of] at q; exact q.elim
  | ok d ρ1 =>
    simp only [e, RS.of] at q
    intro v P1 H1 FE1 F1 S1 T1 t1
    split at q
    · rename_i d0 e0
      obtain ⟨vp, ev, _⟩ := S1.rel i _ e0
      have S1' := S1.give fun b z => ⟨(T1.own b z).1, (T1.own b z).2.2⟩
      have t1' := t1.give
      have rd : Rl true X.K (fun b => P1 b ∨ F1 b) H1 (frz d) v E_ := rl_frz T1.rl (fun b z => .inl z) fun b z => .inr z
      refine ⟨vp, ev, _, ρ1, FE1, S1', ?_⟩
      cases e1 : k ρ1 with
      | exc x ρ2 => simp only [e1] at q; exact fun cls dx P' H' FE' S' t r => q cls dx σ P' H' FE' S' (t1'.trans t) Kp.refl r
      | stk => simp only [e1] at q; exact q.elim
      | ok ee ρ2 =>
        simp only [e1] at q
        intro w P2 H2 FE2 F2 S2 T2 t2
        have rd2 : Rl true X.K P2 H2 (frz d) v E_ := rl_mono rd (fun b z => t2.mono b z) (fun b o e z => t2.frame b o e fun ⟨j, y⟩ => (S1'.fin j b y).2 ((z rfl).elim id False.elim)) fun _ z => z
        split at q
        · rename_i o e3
          cases eg : putD o ee (frz d) with
          | none => simp only [eg] at q; exact q.elim
          | some o' =>
            simp only [eg] at q
            unfold putD at eg
            split at eg
            · rename_i ks xs
              split at eg
              · rename_i c ec
                by_cases hl : xs.length < sizeLine
                · rw [if_pos hl] at eg; cases eg
                  obtain ⟨p, vs, F', ev', h1, l, h2, h3, h4⟩ := slot_dct S2 e3
                  rw [ev] at ev'; cases ev'
                  have nP := (S2.fin i p h2).2
                  have nF' : ¬ F' p := fun z => (h3 p z).2 rfl
                  obtain ⟨vs', k1, k2, k3⟩ := put_ok (rls_upd (o := .dK (putK (ks.zip vs) c v)) h4 nP nF') (isImm_frz d) (rl_upd rd2 nP fun z => z) l (k := c)
                  obtain ⟨S3, t3⟩ := slot_write (F1 := E_) (o := .dK (putK (ks.zip vs) c v)) (d' := .dct true (putKs ks xs c (frz d)).1 (putKs ks xs c (frz d)).2) S2 h1 .dK ev h2 (fun b z => z.elim)
                    (.dctO (F' := F') upd_same k1 k2 (fun _ => .inl h2) (fun b z => ⟨.inl (h3 b z).1, (h3 b z).2⟩) k3)
                  have hz : (ks.zip vs).length < sizeLine := by rw [List.length_zip, l, Nat.min_self, ← rls_len h4]; exact hl
                  exact ⟨p, _, rfl, .inl ⟨_, c, h1, keyOf_rl T2.rl ec, hz, rfl⟩, q σ P2 _ _ S3 (t1'.trans (t2.less'.trans (Tr.noF t3))) Kp.refl⟩
                · rw [if_neg hl] at eg; cases eg
              · cases eg
            · rename_i ks xs
              split at eg
              · rename_i c ec
                by_cases hl : xs.length < sizeLine
                · rw [if_pos hl] at eg; cases eg
                  obtain ⟨p, vs, F', ev', h1, l, h2, h3, h4⟩ := slot_dcT S2 e3
                  rw [ev] at ev'; cases ev'
                  have nP := (S2.fin i p h2).2
                  have nF' : ¬ F' p := fun z => (h3 p z).2 rfl
                  obtain ⟨vs', k1, k2, k3⟩ := put_ok (rls_upd (o := .dT (putK (ks.zip vs) c v)) h4 nP nF') (isImm_frz d) (rl_upd rd2 nP fun z => z) l (k := c)
                  obtain ⟨S3, t3⟩ := slot_write (F1 := E_) (o := .dT (putK (ks.zip vs) c v)) (d' := .dcT true (putKs ks xs c (frz d)).1 (putKs ks xs c (frz d)).2) S2 h1 .dT ev h2 (fun b z => z.elim)
                    (.dcTO (F' := F') upd_same k1 k2 (fun _ => .inl h2) (fun b z => ⟨.inl (h3 b z).1, (h3 b z).2⟩) k3)
                  have hz : (ks.zip vs).length < sizeLine := by rw [List.length_zip, l, Nat.min_self, ← rls_len h4]; exact hl
                  unfold keysT at ec
                  split at ec
                  · rename_i ds
                    cases T2.rl with
                    | tup eb pb rb =>
                      rw [keysOf_rls rb ec] at eb
                      exact ⟨p, _, rfl, .inr ⟨_, c, _, h1, rfl, eb, hz, rfl⟩, q σ P2 _ _ S3 (t1'.trans (t2.less'.trans (Tr.noF t3))) Kp.refl⟩
                  · cases ec
                · rw [if_neg hl] at eg; cases eg
              · cases eg
            · cases eg
        · exact q.elim
    · exact q.elim
end
def fDNewK : Ev → R D := fun ρ => .ok (.dct true [] []) ρ
def fDNewT : Ev → R D := fun ρ => .ok (.dcT true [] []) ρ
section
variable {X : Cx} {RX : RXR} {W : WX} {pos : Pos}
theorem de_dnewT : DE X RX W (.Dict [] [] pos) fDNewT := by
  refine pe_imp pe_dnewT fun σ H Q q => ?_
  obtain ⟨P, ρ, FE, S, q⟩ := q
  intro p hp
  have n : New P H P (upd H p (.dT [])) (fun b => b = p) := New.lst hp S.pin
  have r : Rl true X.K P (upd H p (.dT [])) (.dcT true [] []) (.ref p) (fun b => b = p) := .dcTO (F' := E_) (vs := []) upd_same rfl rfl (fun _ => rfl) (fun b z => z.elim) .nil
  exact q (.ref p) P _ FE _ (n.stt S) (n.tmp S r) n.tr
end
def putR (o : Option (Option D)) (i : Nat) (e d : D) (ρ : Ev) : RS := match o with
  | some (some o) => (match putD o e (frz d) with
    | some o' => .nx (ρ.set i (some o'))
    | none => .stk)
  | _ => .stk
omit [TabC] in
@[simp] theorem ap_dnewK {ρ : Ev} : fDNewK ρ = .ok (.dct true [] []) ρ := (rfl)
omit [TabC] in
@[simp] theorem ap_dnewT {ρ : Ev} : fDNewT ρ = .ok (.dcT true [] []) ρ := (rfl)
omit [TabC] in
@[simp] theorem ap_putD {i : Nat} {f k : Ev → R D} {ρ : Ev} : fPutD i f k ρ = RS.of (f ρ) fun d ρ1 => isSS ρ1[i]? (RS.of (k ρ1) fun e ρ2 => putR ρ2[i]? i e d ρ2) := by
  unfold fPutD isSS putR; rfl
end Hap
namespace Hap
open PySem PySem.Spec PyProof.Rows L2
variable [TabC]
def isDct (d : D) : Bool := match d with
  | .dct _ _ _ => true
  | .dcT _ _ _ => true
  | _ => false
def getD2 (o e x : D) : Option D := match o with
  | .dct _ ks xs => (keyOf e).bind fun c => if isImms xs = true then some ((getK ks xs c).getD (frz x)) else none
  | .dcT _ ks xs => (keysT e).bind fun c => if isImms xs = true then some ((getK ks xs c).getD (frz x)) else none
  | _ => none
def fDGet (i : Nat) (fk fx : Ev → R D) : Ev → R D := fun ρ => match ρ[i]? with
  | some (some o0) => if isDct o0 = true then (fk ρ).bind fun e ρ1 => (fx ρ1).bind fun x ρ2 => match ρ2[i]? with
    | some (some o) => if isImm e = true then R.of (getD2 o e x) ρ2 else .stk
    | _ => .stk
    else .stk
  | _ => .stk
omit [TabC] in
theorem getK_imm {κ : Type} [DecidableEq κ] : ∀ {ks : List κ} {xs : List D} {k : κ} {d : D}, isImms xs = true → getK ks xs k = some d → isImm d = true
  | [], _, _, _, _, e => by simp [getK] at e
  | _ :: _, [], _, _, _, e => by simp [getK] at e
  | k' :: ks, x :: xs, k, d, h, e => by
    simp only [isImms, Bool.and_eq_true] at h
    simp only [getK] at e
    by_cases c : k' = k
    · rw [if_pos c] at e; cases e; exact h.1
    · rw [if_neg c] at e; exact getK_imm h.2 e
section
variable {X : Cx} {RX : RXR} {W : WX}
theorem de_dget {o e f : Expr} {apos cpos : Pos} {i : Nat} {fk fx : Ev → R D} (hu : X.A.units + 1 < cLine) (ho : PE X o (tVar i)) (he : DE X RX W e fk) (hf : DE X RX W f fx) (m : M2 X o "get" apos e f cpos) : DE X RX W (.Call (.Attribute o "get" apos) [e, f] [] cpos) (fDGet i fk fx) := by
  refine pe_imp (pe_dget2 hu ho he hf m) fun σ H Q q => ?_
  obtain ⟨P, ρ, FE, S, q⟩ := q
  unfold fDGet at q
  cases e0 : ρ[i]? with
  | none => simp only [e0] at q
  | some oo =>
  cases oo with
  | none => simp only [e0] at q
  | some o0 =>
  simp only [e0] at q
  by_cases hd : isDct o0 = true
  · simp only [if_pos hd] at q
    obtain ⟨v, ev, r⟩ := S.rel i _ e0
    obtain ⟨a, rfl, isd⟩ : ∃ a, v = .ref a ∧ IsD H a := by
      cases o0 with
      | dct o ks xs => obtain ⟨p, vs, rfl, e1, _, _⟩ := dct_read r; exact ⟨p, rfl, .inl ⟨_, e1⟩⟩
      | dcT o ks xs => obtain ⟨p, vs, rfl, e1, _, _⟩ := dcT_read r; exact ⟨p, rfl, .inr ⟨_, e1⟩⟩
      | _ => cases hd
    refine ⟨.ref a, ev, a, rfl, isd, P, ρ, FE, S, ?_⟩
    cases e1 : fk ρ with
    | exc x ρ1 => simp only [e1, R.bind] at q; exact q
    | stk => simp only [e1, R.bind] at q
    | ok ee ρ1 =>
      simp only [e1, R.bind] at q
      intro y P1 H1 FE1 F1 S1 T1 t1
      refine ⟨P1, ρ1, FE1, S1, ?_⟩
      cases e2 : fx ρ1 with
      | exc x ρ2 => simp only [e2] at q; exact fun cls dx P' H' FE' S' t r => q cls dx P' H' FE' S' (t1.less'.trans t) r
      | stk => simp only [e2] at q
      | ok xx ρ2 =>
        simp only [e2] at q
        intro z P2 H2 FE2 F2 S2 T2 t2
        cases e3 : ρ2[i]? with
        | none => simp only [e3] at q
        | some oo =>
        cases oo with
        | none => simp only [e3] at q
        | some o =>
        simp only [e3] at q
        by_cases hi : isImm ee = true
        · simp only [if_pos hi] at q
          obtain ⟨v', ev', r'⟩ := S2.rel i _ e3
          rw [ev] at ev'; cases ev'
          obtain ⟨T1', _⟩ := T1.step S1 t2
          have tt := t1.less'.trans t2
          cases eg : getD2 o ee xx with
          | none => simp only [eg, R.of] at q
          | some d =>
            simp only [eg, R.of] at q
            unfold getD2 at eg
            split at eg
            · rename_i oo ks xs
              cases ec : keyOf ee with
              | none => rw [ec] at eg; cases eg
              | some c =>
                rw [ec] at eg
                simp only [Option.bind] at eg
                by_cases im : isImms xs = true
                · rw [if_pos im] at eg
                  obtain ⟨p, vs, ep, h1, l, rs⟩ := dct_read r'
                  cases ep
                  refine ⟨valV (ks.zip vs) c, .inl ⟨_, c, h1, keyOf_rl T1.rl ec, rfl⟩, ?_⟩
                  cases eg2 : getK ks xs c with
                  | none =>
                    rw [eg2] at eg; cases eg
                    rw [getK_none rs l eg2]
                    exact q z (fun b => P2 b ∨ F2 b) H2 FE2 E_ (S2.give fun b z => ⟨(T2.own b z).1, (T2.own b z).2.2⟩) ⟨rl_frz T2.rl (fun b z => .inl z) fun b z => .inr z, fun b z => z.elim⟩ (tt.give.less fun b z => z.elim id fun w => w.elim)
                  | some d' =>
                    rw [eg2] at eg; cases eg
                    obtain ⟨u, hu1, hu2⟩ := getK_some rs l eg2
                    rw [hu1]
                    exact q u P2 H2 FE2 E_ S2 ⟨rl_imm hu2 (getK_imm im eg2), fun b z => z.elim⟩ (tt.less fun b z => z.elim .inl fun w => w.elim)
                · rw [if_neg im] at eg; cases eg
            · rename_i oo ks xs
              cases ec : keysT ee with
              | none => rw [ec] at eg; cases eg
              | some c =>
                rw [ec] at eg
                simp only [Option.bind] at eg
                by_cases im : isImms xs = true
                · rw [if_pos im] at eg
                  obtain ⟨p, vs, ep, h1, l, rs⟩ := dcT_read r'
                  cases ep
                  unfold keysT at ec
                  split at ec
                  · rename_i ds
                    cases T1'.rl with
                    | tup eb pb rb =>
                      rw [keysOf_rls rb ec] at eb
                      refine ⟨valV (ks.zip vs) c, .inr ⟨_, c, _, h1, rfl, eb, rfl⟩, ?_⟩
                      cases eg2 : getK ks xs c with
                      | none =>
                        rw [eg2] at eg; cases eg
                        rw [getK_none rs l eg2]
                        exact q z (fun b => P2 b ∨ F2 b) H2 FE2 E_ (S2.give fun b z => ⟨(T2.own b z).1, (T2.own b z).2.2⟩) ⟨rl_frz T2.rl (fun b z => .inl z) fun b z => .inr z, fun b z => z.elim⟩ (tt.give.less fun b z => z.elim id fun w => w.elim)
                      | some d' =>
                        rw [eg2] at eg; cases eg
                        obtain ⟨u, hu1, hu2⟩ := getK_some rs l eg2
                        rw [hu1]
                        exact q u P2 H2 FE2 E_ S2 ⟨rl_imm hu2 (getK_imm im eg2), fun b z => z.elim⟩ (tt.less fun b z => z.elim .inl fun w => w.elim)
                  · cases ec
                · rw [if_neg im] at eg; cases eg
            · cases eg
        · simp only [if_neg hi] at q
  · simp only [if_neg hd] at q
end
def dctO (o : Option (Option D)) (k : R D) : R D := match o with
  | some (some o0) => if isDct o0 = true then k else .stk
  | _ => .stk
def getR (o : Option (Option D)) (e x : D) (ρ : Ev) : R D := match o with
  | some (some o) => if isImm e = true then R.of (getD2 o e x) ρ else .stk
  | _ => .stk
omit [TabC] in
theorem ap_dget {i : Nat} {fk fx : Ev → R D} {ρ : Ev} : fDGet i fk fx ρ = dctO ρ[i]? ((fk ρ).bind fun e ρ1 => (fx ρ1).bind fun x ρ2 => getR ρ2[i]? e x ρ2) := by
  unfold fDGet dctO getR; rfl
end Hap
namespace Hap
open PySem PySem.Spec PyProof.Rows L2
end Hap
namespace Hap
open PySem PySem.Spec PyProof.Rows L2
variable [TabC]
def gMulX (d e : D) : Option D := match d, e with
  | .int i, .int j => gMul (.int i) (.int j)
  | .str x, .int k => if 0 ≤ k ∧ k ≤ 1000000 ∧ x.length ≤ 1000000 ∧ x.length * k.toNat ≤ sizeLine then some (.str (Txt.mul x k)) else none
  | _, _ => none
omit [TabC] in
@[simp] theorem mulX_ii {i j} : gMulX (.int i) (.int j) = if CMul i j then some (.int (i * j)) else none := (rfl)
end Hap
namespace HotLc
open PySem PySem.Spec PyProof.Rows L2 L2H
/-- the block's context, the handled exception pinned -/
abbrev hblk (X : Cx) (q : Addr × Obj) (s : Shared) (H : Hp) (scope : Scope) (ce : Env) (fp : List Addr) : Cx := (X.blk s H scope ce fp).tr ([] ++ [q]) (fun _ _ => False)
section
variable {X : Cx} {q : Addr × Obj}
theorem hblk_hot {s : Shared} {H : Hp} {scope : Scope} {ce : Env} {fp : List Addr} (h : Hot1 X.A q) : HotC (hblk X q s H scope ce fp) := ⟨q, h, by simp⟩
theorem hblk_fp {s s5 : Shared} {H H5 : Hp} {scope : Scope} {ce : Env} {fp : List Addr} {σ5 : L2.St} (I5 : Inv (hblk X q s H scope ce fp) [] σ5 H5 s5) (nq : ∀ b ∈ fp, q.1 ≠ b) (hn : ∀ b ∈ fp, H5 b = none) : ∀ b ∈ fp, FpOk (hblk X q s H scope ce fp) [] H5 b := fun b hb => by
  have x1 := I5.ok.exf b hb
  have x2 := I5.ok.exfs b hb
  refine ⟨hn b hb, x1.1, x2, .inl hb, fun y c e => x1.2 y c e, fun r hr => ?_⟩
  have er : r = q := by
    have hr' : r ∈ ([] ++ [q]) ++ ([] : List (Addr × Obj)) := hr
    simpa using hr'
  rw [er]
  exact nq b hb
theorem core {pins : List (Addr × Obj)} {s : Shared} {σ : L2.St} {H : Hp} {Q : VK} {elt tg iter : Expr} {ifs : List Expr} {scope : Scope} {own : List (Str × Nat)} {pos pos' : Pos} {wi : TI} {g : TG} {tt : TT} {te : TE} {use : Option (Value → Sem Unit)} {Qf : Value → Shared → Prop}
    (hot : Hot1 X.A q) (hq : q ∈ X.pn) (hN : X.N.Nodup) (I : Inv X pins σ H s) (hi : PIH X tg iter wi) (ok : BlkOk X.N X.env.scope scope own)
    (hg : ∀ (s : Shared) (H : Hp) (C : Addr) (cl : List (Str × Addr)) (fp : List Addr), PG (hblk X q s H scope (compEnvC scope cl C X.env) fp) tg g)
    (ht : ∀ (s : Shared) (H : Hp) (C : Addr) (cl : List (Str × Addr)) (fp : List Addr), PTs (hblk X q s H scope (compEnvC scope cl C X.env) fp) ifs tt)
    (he : ∀ (s : Shared) (H : Hp) (C : Addr) (cl : List (Str × Addr)) (fp : List Addr), PE (hblk X q s H scope (compEnvC scope cl C X.env) fp) elt te) (hs : ∀ x, foldedSetIterable iter X.env x = pure x)
    (w : tLc wi g tt te (own.map (·.2)) σ H Q)
    (fin : ∀ D C s' m H', Inv X pins σ H' s' → Q (.ref D) H' → s'.heap.Ns C m → FpOk X pins H' C → compPost (model X.prog X.w) X.A X.xe use Qf (.ref D) C (.ok .next) s') :
    wpAny (model X.prog X.w) X.A (comprehension (.ListComp elt [⟨tg, iter, ifs, 0⟩] scope pos) scope X.env pos' (newList []) false (eval iter X.env) use) Qf X.xe s := by
  have clo : ∀ y ∈ scope.names, y.2 = .free → ∃ c, X.env.cells.lookup y.1 = some c := fun y hy e => I.ok.has _ ((ok.free y hy e).imp id id)
  refine wpAny_comprehension_free (use := use) rfl hs (closure_ok clo) ok.kind (fun y hy e => (ok.uniq y hy).trans (congrArg some e)) (thn (hi.run pins s σ H _ I w) fun xv t1 hx => thn hx fun itv t2 z2 => ?_)
  obtain ⟨it, fp, tn, J, G, ei, I2, T, st, fpo, u⟩ := z2
  cases ei
  refine wpAny_newObj_type (newEnv_comp ?_) (Nat.zero_le _)
  obtain ⟨D, eD⟩ : ∃ D, D = t2.heap.objs.size := ⟨_, rfl⟩
  rw [← eD]
  have nD : G D = none := I2.hok.fresh (Nat.le_of_eq eD.symm)
  obtain ⟨W, ⟨m0, w0⟩, turn⟩ := u D nD
  obtain ⟨t3, e3⟩ : ∃ t3 : Shared, t3 = { t2 with heap := t2.heap.push { cls := .type "list", data := .seq ([] : List Value).toArray } } := ⟨_, rfl⟩
  rw [← e3]
  have hp3 : t3.heap = t2.heap.push { cls := .type "list", data := .seq ([] : List Value).toArray } := congrArg Shared.heap e3
  have at3 : ∀ b o, t2.heap.get? b = some o → t3.heap.get? b = some o := fun b o e => by rw [hp3]; exact Heap.get?_push_of_some _ e
  have I3 : Inv X pins σ (upd G D (.lst [])) t3 := by
    rw [e3]
    refine I2.laid (t' := t2.toks) (fun b o e => Heap.get?_push_of_some _ e) (Nat.le_of_eq eD.symm) ⟨Nat.zero_le _, [], 0, .nil, ?_⟩
    rw [eD]
    exact Heap.get?_push_size _ rfl
  have low : ∀ b ∈ fp, b < t2.heap.objs.size := fun b hb => let ⟨_, e, _⟩ := T.obj _ _ st b hb; Heap.lt_size e
  have f3 : ∀ b ∈ fp, FpOk X pins (upd G D (.lst [])) b ∧ b < t3.heap.objs.size := fun b hb => by
    have lb := low b hb
    have ne : b ≠ D := fun e => by rw [e, eD] at lb; exact Nat.lt_irrefl _ lb
    refine ⟨⟨(upd_ne ne).trans (fpo b hb).1, (fpo b hb).2⟩, ?_⟩
    rw [hp3, Heap.size_push]
    exact Nat.lt_succ_of_lt lb
  have nq : ∀ b ∈ fp, q.1 ≠ b := fun b hb => (fpo b hb).2.2.2.2.2 q (List.mem_append_left _ hq)
  have st3 : tn 0 t3.heap := T.keep _ _ _ st fun b _ o e => at3 b o e
  have I4 := block_start I3 ok hN f3
  have pg := hg t3 (upd G D (.lst [])) t3.heap.objs.size (cellsFrom (t3.heap.objs.size + 1) scope.names (cloFrom X.env.cells scope.names [])) fp
  have pt := ht t3 (upd G D (.lst [])) t3.heap.objs.size (cellsFrom (t3.heap.objs.size + 1) scope.names (cloFrom X.env.cells scope.names [])) fp
  have pe := he t3 (upd G D (.lst [])) t3.heap.objs.size (cellsFrom (t3.heap.objs.size + 1) scope.names (cloFrom X.env.cells scope.names [])) fp
  show codeAny _ _ (.compStart (.ListComp elt [⟨tg, iter, ifs, 0⟩] scope pos) 0 (.ref it) (.ref D) (compEnvC scope (cellsFrom (t3.heap.objs.size + 1) scope.names (cloFrom X.env.cells scope.names [])) t3.heap.objs.size X.env)) (compPost (model X.prog X.w) X.A X.xe use Qf (.ref D) t3.heap.objs.size) { t3 with heap := pushCells (t3.heap.push { cls := .type "dict", data := .dict #[] }) scope.names }
  have f3n : ∀ b ∈ fp, (upd G D (.lst [])) b = none := fun b hb => (f3 b hb).1.1
  have lc : (compEnvC scope (cellsFrom (t3.heap.objs.size + 1) scope.names (cloFrom X.env.cells scope.names [])) t3.heap.objs.size X.env).locals = t3.heap.objs.size := rfl
  revert I4 pg pt pe lc
  generalize compEnvC scope (cellsFrom (t3.heap.objs.size + 1) scope.names (cloFrom X.env.cells scope.names [])) t3.heap.objs.size X.env = ce
  intro I4 pg pt pe lc
  obtain ⟨H3, eH⟩ : ∃ H3, H3 = upd G D (.lst []) := ⟨_, rfl⟩
  rw [← eH] at I3 I4 pg pt pe w0 f3n f3
  obtain ⟨t4, e4⟩ : ∃ t4 : Shared, t4 = { t3 with heap := pushCells (t3.heap.push { cls := .type "dict", data := .dict #[] }) scope.names } := ⟨_, rfl⟩
  rw [← e4] at I4 ⊢
  have at4 : ∀ b o, t3.heap.get? b = some o → t4.heap.get? b = some o := fun b o e => by rw [e4]; exact pushCells_keeps _ _ _ _ (Heap.get?_push_of_some _ e)
  have st4 : tn 0 t4.heap := T.keep _ _ _ st3 fun b _ o e => at4 b o e
  -- the handled exception is pinned in the block
  have pq := I3.pin q (List.mem_append_left _ hq)
  have qin : t3.heap.get? q.1 = some q.2 := pq.1
  have J4 : Inv (hblk X q t3 H3 scope ce fp) [] (wipe σ (own.map (·.2))) H3 t4 := by
    refine Inv.toTry (pins := [q]) (I4.pins_of fun r hr => ?_) (fun _ _ => False)
    have er : r = q := by simpa using hr
    rw [er]
    refine ⟨at4 _ _ qin, pq.2.1, ?_, fun z => ?_, pq.2.2.2.2⟩
    · show q.1 ≠ ce.locals
      rw [lc]
      exact Nat.ne_of_lt (Heap.lt_size qin)
    · rcases List.mem_cons.mp (I3.stkSub _ z) with e | e
      · exact pq.2.2.1 e
      · exact pq.2.2.2.1 e
  have hc : HotC (hblk X q t3 H3 scope ce fp) := hblk_hot hot
  have loop : codeAny (model X.prog X.w) X.A (.compLoop (.ListComp elt [⟨tg, iter, ifs, 0⟩] scope pos) 0 (.ref it) (.ref D) ce) (compPost (model X.prog X.w) X.A X.xe use Qf (.ref D) t3.heap.objs.size) t4 := by
    refine compLoop_any (fun n s' => ∃ i H', Inv (hblk X q t3 H3 scope ce fp) [] (wipe σ (own.map (·.2))) H' s' ∧ tn i s'.heap ∧ (∀ b ∈ fp, H' b = none) ∧ W i n H') ?_ m0 ⟨0, H3, J4, st4, f3n, w0⟩
    rintro n t5 ⟨i, H5, J5, st5, n5, w5⟩
    rcases turn i n H5 w5 with ⟨stop, qq⟩ | ⟨go, Nx, hNx, step⟩
    · have td := T.done (hblk X q t3 H3 scope ce fp) rfl rfl rfl hc i [] t5 _ H5 (fun _ _ => False) J5 (hblk_fp J5 nq n5) st5 stop
      refine thnF td fun r t6 z6 => ?_
      obtain ⟨er, J6⟩ := z6
      cases er
      have I7 : Inv X pins σ H5 t6 := I3.call' (ch := fp) J6.os J6.base J6.hok J6.bare fun b hb => by
        obtain ⟨_, y2, y3, y4, y5, y6⟩ := (f3 b hb).1
        exact ⟨y4, y2, y5, y6⟩
      obtain ⟨m, hm, _⟩ := J6.loc
      have hm' : t6.heap.Ns ce.locals m := hm
      have nC : H5 ce.locals = none := J6.free
      rw [lc] at hm' nC
      exact fin D t3.heap.objs.size t6 m H5 I7 qq hm' (I3.fpOk (Nat.le_refl _) nC)
    · have ti := T.item (hblk X q t3 H3 scope ce fp) rfl rfl rfl hc i [] t5 _ H5 (fun _ _ => False) J5 (hblk_fp J5 nq n5) st5 go
      refine thnF ti fun r t6 z6 => ?_
      obtain ⟨v, er, z6⟩ := z6
      cases er
      refine thnF z6 fun _ t7 z7 => ?_
      obtain ⟨x, H7, J7, r7, y7, st7, n7⟩ := z7
      have K7 := J7.pinned (hblk_fp J7 nq n7) (T.obj _ _ st7)
      refine thnF (pg.run _ t7 _ H7 x v _ K7 r7 (step x H7 y7)) fun _ t8 z8 => ?_
      obtain ⟨σ8, H8, J8, hw, q8⟩ := z8
      refine thnF (pt.run _ t8 σ8 H8 _ J8 q8) fun b t9 z9 => ?_
      obtain ⟨H9, J9, q9⟩ := z9
      have back : ∀ {s' : Shared} {H' : Hp}, Inv (hblk X q t3 H3 scope ce fp) ([] ++ pinsAt fp t7.heap) σ8 H' s' → Nx H' → ∃ m, m < n ∧ ∃ i H', Inv (hblk X q t3 H3 scope ce fp) [] (wipe σ (own.map (·.2))) H' s' ∧ tn i s'.heap ∧ (∀ b ∈ fp, H' b = none) ∧ W i m H' := fun {s' H'} K nx => by
        obtain ⟨m', lm, w'⟩ := hNx H' nx
        have still : ∀ b ∈ fp, ∀ o, t7.heap.get? b = some o → s'.heap.get? b = some o ∧ H' b = none := fun b hb o e => by
          have z := K.pin (b, o) (List.mem_append_right _ (List.mem_append_right _ (mem_pinsAt hb e)))
          exact ⟨z.1, z.2.1⟩
        refine ⟨m', lm, i + 1, H', (K.unpinned (pins := [])).weak ?_ (fun j v e => ?_), T.keep _ _ _ st7 fun b hb o e => (still b hb o e).1, fun b hb => ?_, w'⟩
        · rw [← hw]; exact wipe_length _ _
        · rw [← hw] at e
          exact (wipe_some e).1
        · obtain ⟨o, e, _⟩ := T.obj _ _ st7 b hb
          exact (still b hb o e).2
      cases b with
      | false =>
        rw [if_neg Bool.false_ne_true] at q9 ⊢
        exact back J9 q9
      | true =>
        rw [if_pos rfl] at q9 ⊢
        refine thnF (pe.run _ t9 σ8 H9 _ J9 q9) fun z t10 z10 => ?_
        obtain ⟨yv, H10, J10, r10, acc, hD, hz, nx⟩ := z10
        exact app_ok (X := hblk X q t3 H3 scope ce fp) J10 hD hz r10 fun t11 J11 => back J11 nx
  exact codeAny_compStart_list loop (T.self X.A 0 _ _ _ st4 loop)
/-- name = [..], the name a local -/
theorem ps_setLcH {i : Nat} {y : Str} {py : Pos} {elt tg iter : Expr} {ifs : List Expr} {scope : Scope} {own : List (Str × Nat)} {pos spos : Pos} {wi : TI} {g : TG} {tt : TT} {te : TE} (hot : Hot1 X.A q) (hq : q ∈ X.pn) (hN : X.N.Nodup) (hy : X.N[i]? = some y) (hyl : X.env.kindOf y = some .local)
    (hsw : swapsWith (.ListComp elt [⟨tg, iter, ifs, 0⟩] scope pos) (some (.Name y py)) spos.line X.env = pure true) (hi : PIH X tg iter wi) (ok : BlkOk X.N X.env.scope scope own)
    (hg : ∀ (s : Shared) (H : Hp) (C : Addr) (cl : List (Str × Addr)) (fp : List Addr), PG (hblk X q s H scope (compEnvC scope cl C X.env) fp) tg g)
    (ht : ∀ (s : Shared) (H : Hp) (C : Addr) (cl : List (Str × Addr)) (fp : List Addr), PTs (hblk X q s H scope (compEnvC scope cl C X.env) fp) ifs tt)
    (he : ∀ (s : Shared) (H : Hp) (C : Addr) (cl : List (Str × Addr)) (fp : List Addr), PE (hblk X q s H scope (compEnvC scope cl C X.env) fp) elt te) (hs : ∀ x, foldedSetIterable iter X.env x = pure x := by intro _; rfl) :
    PS X (.Assign [.Name y py] (.ListComp elt [⟨tg, iter, ifs, 0⟩] scope pos) spos) (tAsg (tLc wi g tt te (own.map (·.2))) (gName i)) := by
  refine ⟨fun pins s σ H D I w => ?_⟩
  rw [exec_Assign_Name_used _ _ _ _ hsw]
  refine wpAny_bind (wpAny_standAt (wpAny_bind ?_))
  show wpAny _ X.A (do let _ ← comprehension (.ListComp elt [⟨tg, iter, ifs, 0⟩] scope pos) scope X.env (firstIterPos [⟨tg, iter, ifs, 0⟩] pos) (newList []) false (eval iter X.env) (some (assign (.Name y py) X.env)); _) _ _ s
  have w' : tLc wi g tt te (own.map (·.2)) σ H (fun x H1 => gName i x σ H1 D.nx) := w
  refine wpAny_bind (thn (core (Qf := fun _ s' => SP X pins D .next s') hot hq hN I hi ok hg ht he hs w' fun A C s' m H' J qq hn f => ?_) fun _ s' z => wpAny_pure (wpAny_pure z))
  show wpAny _ _ (assign (.Name y py) X.env (.ref A)) _ _ _
  refine wpAny_assign_Name (store_ok2 (v := V.ref A) J hN hy (.inl hyl) rfl (fun s2 J2 z2 => ?_) (.inr hyl))
  obtain ⟨a, sb, ha⟩ := z2
  obtain ⟨f0, f1, f2, f3, f4, f5⟩ := f
  have ne : C ≠ a := ha.elim (fun z => z ▸ f1) fun z e => f4 y a z e.symm
  exact ⟨m, hn.sameBut sb ne, fun h3 sb3 => ⟨_, H', J2.turned (t' := s2.toks) (fun b o hb e => (sb3.2 b hb).trans e) f0 f1 f3 f4 f5, qq⟩⟩
end
end HotLc
namespace Hap
open PySem PySem.Spec PyProof.Rows L2
variable [TabC]
def excN : List Str := ["NoHouse", "NoRow", "NoMachine", "NoRoom", "NoHand", "Unlike", "NoPast", "TooMany", "Torn", "NoTable", "NoSet", "Falls", "Whole", "NoText", "NoWord"]
abbrev bmV : List Value := [.type "ValueError", .type "Exception", .type "BaseException", .type "object"]
/-- what the written part says of a class of refusals at C, right under the one at CH -/
structure EC (K : PySem.W.Frag) (CH C : Addr) : Prop where
  cl : ∃ cd, PySem.W.clsIn K C = some cd ∧ cd.mro = .ref C :: .ref CH :: bmV
  ty : PySem.W.typeIn K (.ref C) = some (.type "type")
  kp : PySem.W.keepIn K (.ref C) = true
  ga : PySem.W.findIn K (.ref C) "__getattribute__" = some (some (.builtin "BaseException.__getattribute__"))
  gt : PySem.W.findIn K (.ref C) "__getattr__" = some none
  ca : PySem.W.findIn K (.ref C) "__class__" = some (some (.builtin "object.__class__"))
structure ETab (K : PySem.W.Frag) (mg : Str → Option Value) (CH : Addr) (cs : List Addr) : Prop where
  len : cs.length = 15
  g : ∀ (i : Nat) (C : Addr) (n : Str), cs[i]? = some C → excN[i]? = some n → mg n = some (.ref C)
  ent : ∀ C ∈ cs, EC K CH C
  nd : (CH :: cs).Nodup
  gH : mg "HandError" = some (.ref CH)
  clH : ∃ cd, PySem.W.clsIn K CH = some cd ∧ cd.mro = .ref CH :: bmV
  tyH : PySem.W.typeIn K (.ref CH) = some (.type "type")
  nn : PySem.W.specialIn K (.builtin "object.__class__") "__get__" = some (some (.builtin "getset_descriptor.__get__"))
  tk : PySem.W.takesIn K (.builtin "object.__class__") = some true
section
variable {K : PySem.W.Frag} {mg : Str → Option Value} {CH C C' : Addr} {cs : List Addr} {i j : Nat}
omit [TabC] in
theorem EC.sub (c : EC K CH C) (v : Value) : PySem.W.subIn K (.ref C) v = some ((Value.ref C :: .ref CH :: bmV).contains v) := by
  obtain ⟨cd, e, m⟩ := c.cl
  show PySem.W.mroIn K C v = _
  unfold PySem.W.mroIn
  rw [e, Option.bind_some, m]; rfl
theorem EC.raises {X : Cx} (c : EC X.K CH C) : Raises X (.ref C) := raises_own ((c.sub _).trans (by simp)) c.ty
omit [TabC] in
theorem ETab.ne (T : ETab K mg CH cs) (hi : cs[i]? = some C) (hj : cs[j]? = some C') : (C = C') = (i = j) := by
  have nd := (List.nodup_cons.mp T.nd).2
  have hi' := (List.getElem?_eq_some_iff.mp hi)
  obtain ⟨li, ei⟩ := hi'
  obtain ⟨lj, ej⟩ := List.getElem?_eq_some_iff.mp hj
  rw [← ei, ← ej, eq_iff_iff]
  constructor
  · intro e
    have h1 : cs[i]? = some C' := by rw [hi, ← ei, e, ej]
    by_cases z : i = j
    · exact z
    · exfalso
      have := List.pairwise_iff_getElem.mp nd
      rcases Nat.lt_or_gt_of_ne z with l | l
      · exact this i j li lj l e
      · exact this j i lj li l e.symm
  · intro e; subst e; rfl
omit [TabC] in
theorem ETab.neH (T : ETab K mg CH cs) (hi : cs[i]? = some C) : C ≠ CH := fun e => (List.nodup_cons.mp T.nd).1 (e ▸ List.mem_of_getElem? hi)
theorem ETab.kit (T : ETab K mg CH cs) (hi : cs[i]? = some C) (hj : cs[j]? = some C') : PySem.W.kitOne K (.ref C) (.ref C') = some (decide (i = j)) := by
  have ne := T.ne hi hj
  have c := T.ent C (List.mem_of_getElem? hi)
  have c' := T.ent C' (List.mem_of_getElem? hj)
  unfold PySem.W.kitOne
  by_cases e : i = j
  · have e' : C = C' := by rw [ne]; exact e
    rw [if_pos (by rw [e']; simp), decide_eq_true e]
  · have e' : ¬ C = C' := by rw [ne]; exact e
    rw [if_neg (by simpa using e'), decide_eq_false e]
    obtain ⟨cd, q, _⟩ := c'.cl
    show (if ((PySem.W.clsIn K C').isSome && PySem.W.typeIn K (.ref C') == some (.type "type")) = true then PySem.W.subIn K (.ref C) (.ref C') else none) = _
    rw [if_pos (by rw [q, c'.ty]; rfl), c.sub]
    have n1 : (C' = C) = False := eq_false fun z => e' z.symm
    have n2 := T.neH hj
    simp [n1, n2]
theorem ETab.kitV (T : ETab K mg CH cs) (hi : cs[i]? = some C) : PySem.W.kitOne K (.ref C) (.type "ValueError") = some true := by
  have c := T.ent C (List.mem_of_getElem? hi)
  unfold PySem.W.kitOne
  rw [if_neg (by simp)]
  show (if PySem.W.kitMeta "ValueError" = true then PySem.W.subIn K (.ref C) (.type "ValueError") else none) = _
  rw [if_pos (by decide +kernel), c.sub]; simp
theorem ETab.exmH (T : ETab K mg CH cs) (hi : cs[i]? = some C) : PySem.W.exmOne K (.ref C) (.ref CH) = some true := by
  have c := T.ent C (List.mem_of_getElem? hi)
  obtain ⟨cd, q, m⟩ := T.clH
  have sH : PySem.W.subIn K (.ref CH) (.type "BaseException") = some true := by
    show PySem.W.mroIn K CH _ = _
    unfold PySem.W.mroIn
    rw [q, Option.bind_some, m]; simp
  unfold PySem.W.exmOne
  rw [if_pos (by rw [sH]; rfl)]
  show (if ((PySem.W.clsIn K CH).isSome && PySem.W.typeIn K (.ref CH) == some (.type "type")) = true then PySem.W.subIn K (.ref C) (.ref CH) else none) = _
  rw [if_pos (by rw [q, T.tyH]; rfl), c.sub]; simp
end
/-- the fields of a refusal -/
def fldN (n : Str) : List Str := if n = "Torn" then ["row", "place"] else if n = "Falls" then ["row"] else []
/-- a refusal at the heap -/
def RXP (cs : List Addr) : RXR := fun x P H cls dx => ∃ (i : Nat) (C : Addr), cs[i]? = some C ∧ excN[i]? = some x.cls ∧ cls = .ref C ∧
  ((x.args = [] ∧ dx = none) ∨ ∃ d, dx = some d ∧ P d ∧ H d = some (.xd ((fldN x.cls).zip (x.args.map toV))) ∧ x.args.all flatD = true ∧ x.args ≠ [])
def fRaise (n : Str) : Ev → RS := fun ρ => .exc ⟨n, []⟩ ρ
section
variable {X : Cx} {W : WX} {kp : List Nat} {CH C : Addr} {cs : List Addr} {i : Nat} {x m : Str} {j : Nat} {p p2 p3 pos : Pos}
theorem ds_raise (T : ETab X.K X.mg CH cs) (hx : PySem.W.excIn X.K C bmV "ValueError.__new__" = true) (hi : cs[i]? = some C) (hn : excN[i]? = some x) (hc : X.calm = true) (tk : L2N.Takes X W) (hg : Gl X x) (hdb : (x == ("__debug__" : Str)) = false := by decide) :
    DS X (RXP cs) W kp (.Raise (some (.Call (.Name x p) [.Constant (.str m) j p2] [] p3)) none pos) (fRaise x) := by
  have c := T.ent C (List.mem_of_getElem? hi)
  refine ps_imp (L2N.ps_raise hc tk (L2N.pmk_own PySem.F.excBase_ValueError hx (T.g i C x hi hn) c.kp c.raises hg hdb)) fun D σ H q => ?_
  obtain ⟨P, ρ, FE, S, q⟩ := q
  exact q (.ref C) none σ P H FE S Tr.refl Kp.refl ⟨i, C, hi, hn, rfl, .inl ⟨rfl, rfl⟩⟩
end
structure FnHp (P : Program) (w : World) (K : PySem.W.Frag) (mg : Str → Option Value) (base : Heap) (CX : CXT) (k : Nat) (f : Addr) (fd : FuncData) (ps : List Str) (sp : Addr × Obj → Sp) : Prop where
  len : ∀ p vs H Q E, sp p vs H Q E → vs.length = ps.length
  run : ∀ (A : Around) (outer : List Env) (s : Shared) (H : Hp) (args : Args) (us : List Value) (vs : List V) (Q : VK) (E : XK) (p : Addr × Obj), L2H.RoomH k A → L2H.Hot1 A p → L2H.PinOk outer H s p → Env0 P w K mg base A outer s H → BindsTo s fd args (ps.zip us) → Vals vs us → sp p vs H Q E →
    codeAny (model P w) A (.call (.ref f) args) (CR CX outer P w H s Q E) s
omit [TabC] in
theorem fnHp_of {CX : CXT} {P : Program} {w : World} {K : PySem.W.Frag} {mg : Str → Option Value} {base : Heap} {k : Nat} {x qual : Str} {st : Stmt} {f : Addr} {fd : FuncData} {N ps : List Str} {sp : Addr × Obj → Sp} (F : Fun K x qual st f fd) (S : FnScope N ps (defScope st))
    (len : ∀ p vs H Q E, sp p vs H Q E → vs.length = ps.length)
    (body : ∀ (cdv : Value) (A : Around) (outer : List Env) (s : Shared) (H : Hp) (vs : List V) (Q : VK) (E : XK) (p : Addr × Obj), L2H.Hot1 A p → L2H.RoomH k (A.deeper (envOfC qual (defScope st) s.heap.objs.size f cdv)) → sp p vs H Q E →
      ∃ t, PSs (L2H.cxH CX P w K mg base N qual (defScope st) f cdv A outer s H E p) (defBody st) t ∧ t { nx := fun _ H' => Q .non H', rt := Q } (L2.start N vs) H) :
    FnHp P w K mg base CX (k + 1) f fd ps sp := by
  obtain ⟨oc, od, kV, doc, pm, an, cdv, ct, osl, rfl, lk, hcd⟩ := F.ex
  refine ⟨len, fun A outer s H args us vs Q E p hr hot hpin e0 hb r hsp => ?_⟩
  have lv := len p _ _ _ _ hsp
  have kin : K.In s.heap := e0.mod.kin.keeps fun b o z => (e0.bs b o z).1
  have nol : s.heap.NoLimit := e0.mod.nolimit.keeps fun b o z => (e0.bs b o z).1
  have kinds : ∀ y ∈ ps.zip us, (defScope st).names.lookup y.1 = some .local ∨ ((defScope st).names.lookup y.1 = some .cell ∧ ((cellsFrom (s.heap.objs.size + 1) (defScope st).names []).lookup y.1).isSome = true) := by
    rintro ⟨y, u⟩ hy
    exact (S.par y (List.of_mem_zip hy).1).imp id fun z => ⟨z, PySem.W.cellsFrom_some _ _ _ (.inl z)⟩
  refine codeAny_call_function hr.depth (kin _ _ lk) rfl S.co S.gen rfl (PySem.W.codeRec_of kin hcd) (hb _ _ _ _ (wpAny_newFunctionEnv_cells S.kind kinds fun env he s1 x => ?_))
  cases he
  refine ⟨nol.keeps x.toInCall.keep, codeAny_func ?_⟩
  obtain ⟨t, ht, hq⟩ := body cdv A outer s H vs Q E p hot (hr.deeper _) hsp
  have J := L2H.inv_startH (CX := CX) (E := E) S hpin e0 lv r x
  refine wpAny_mono (ht.run [] s1 (L2.start N vs) H _ J hq) (fun fl s2 z => ?_) fun _ _ z => z
  have out : ∀ {σ2 : L2.St} {H2 : Hp} {v : V} {u : Value}, Inv (L2H.cxH CX P w K mg base N qual (defScope st) f cdv A outer s H E p) [] σ2 H2 s2 → L2.RelV v u → Q v H2 → CE outer P w H s Q u s2 :=
    fun {σ2 H2 v u} J2 rv z => ⟨v, H2, J2.os, J2.bare, J2.base, J2.hok, rv, z⟩
  cases fl with
  | next => obtain ⟨σ2, H2, J2, z⟩ := z; exact out (v := V.non) (u := Value.none) J2 rfl z
  | ret u => obtain ⟨v, σ2, H2, J2, rv, z⟩ := z; exact out J2 rv z
  | brk => obtain ⟨_, _, _, z⟩ := z; exact False.elim z
  | cont => obtain ⟨_, _, _, z⟩ := z; exact False.elim z
section
variable {X : Cx} {k : Nat} {f : Addr} {fd : FuncData} {ps : List Str} {sp : Addr × Obj → Sp} {x : Str} {q pos : Pos} {e : Expr} {es : List Expr} {t : TA} {p : Addr × Obj}
omit [TabC] in
theorem pe_callHp (F : FnHp X.prog X.w X.K X.mg X.base (L2N.CX X.prog X.w) k f fd ps sp) (hr : L2H.RoomH k X.A) (hot : L2H.Hot1 X.A p) (hp : p ∈ X.pn) (hg : Gl X x) (hm : X.mg x = some (.ref f)) (hk : PySem.W.keepIn X.K (.ref f) = true) (hb : Binds X.K fd ps [])
    (ha : PA X (e :: es) t) (hdb : (x == ("__debug__" : Str)) = false := by decide) (he : starEach (e :: es) X.env = (false, eval e X.env) :: starEach es X.env := by rfl) (hpl : (backTo pos (starEach es X.env)).any (·.1) = false := by rfl) :
    PE X (.Call (.Name x q) (e :: es) [] pos) (fun σ H Q => t σ H fun vs H1 => sp p vs H1 Q fun _ _ _ => False) := by
  refine ⟨fun pins s σ H Q I h => wpAny_Call_Name_kw (ld_glob I hg hm ?_ hdb)⟩
  refine PySem.W.callWith_K (h₀ := X.base) I.ok.mod.kin hk (thn (ha.run pos pins s σ H _ I h) fun us s1 z1 => ?_) he hpl
  obtain ⟨vs, H1, I1, r, z1⟩ := z1
  refine ⟨I1.kIn, ?_⟩
  have lu : us.length = ps.length := by rw [← r.length]; exact F.len _ _ _ _ _ z1
  have b := hb s1 us I1.kIn (by rw [List.append_nil]; exact lu)
  rw [List.append_nil] at b
  have P1 := I1.pin p (List.mem_append_left _ hp)
  have ok : L2H.PinOk X.stack H1 s1 p := ⟨P1.1, P1.2.1, fun z => (List.mem_cons.mp (I1.stkSub p.1 z)).elim P1.2.2.1 P1.2.2.2.1, P1.2.2.2.2⟩
  refine wpAny_call (codeAny_mono (F.run X.A X.stack s1 H1 ⟨us, []⟩ us vs Q (fun _ _ _ => False) p hr hot ok I1.env0 b r z1) fun r s2 z2 => ?_)
  match r, z2 with
  | .error e, z2 =>
    obtain ⟨_, _, _, _, _, _, _, _, _, _, _, _, z2⟩ := z2
    exact z2.elim
  | .ok (.ret u), z2 => exact I1.after z2
  | .ok .next, z2 => exact False.elim z2
  | .ok .brk, z2 => exact False.elim z2
  | .ok .cont, z2 => exact False.elim z2
end
end Hap
namespace Hap
open PySem PySem.Spec PyProof.Rows L2
variable [TabC]
def vIsE (i : Nat) (a : Addr) (b : Bool) : Ev → Option D := fun ρ => match ρ[i]? with
  | some (some (.gv (.ref a'))) => if a' = a then some (.bl b) else none
  | _ => none
def rIsE' (K : PySem.W.Frag) (D a : Addr) : List V → Hp → VK → Prop := fun xs H Q => ∃ (c : V) (cv : Value) (b : Bool), xs = [.ref a, c] ∧ (∀ u, RelV c u → u = cv) ∧ PySem.W.kitOne K (.ref D) cv = some b ∧ Q (.bl b) H
section
variable {X : Cx} {a CH D : Addr} {oe : Obj} {cs : List Addr} {i : Nat} {b : Bool}
omit [TabC] in
theorem call_isE' (T : ETab X.K X.mg CH cs) (c : EC X.K CH D) (hp : (a, oe) ∈ X.pn) (hc : oe.cls = .ref D) (hd : oe.dict = none) (hf : ∃ vs, oe.data = .fields vs) : CallR X (.builtin "isinstance") (rIsE' X.K D a) := by
  intro pins s σ H xs us Q I r h
  obtain ⟨k, cv, b, rfl, hcv, e, q⟩ := h
  cases r with
  | cons rx rr =>
    cases rr with
    | cons rt rr =>
      cases rr
      cases rx
      have ec := hcv _ rt
      subst ec
      have at_ := (I.pin (a, oe) (List.mem_append_left _ hp)).1
      have J : PySem.W.InstAt s.heap a oe D none := ⟨at_, hc, by obtain ⟨vs, e⟩ := hf; unfold PySem.W.notCls; rw [e], by rw [hd]; trivial⟩
      obtain ⟨cd, e1, _⟩ := c.cl
      refine PySem.W.kia_one (PySem.W.kitx_exc (by rw [e1]; rfl) c.ga c.gt ((c.sub _).trans (by simp)) c.ca T.nn T.tk ((c.sub _).trans (by simp))) I.kIn J e (fun z => nomatch z) fun tk => ?_
      exact ⟨.bl b, H, I.kept (t' := tk) fun _ _ z => z, rfl, q⟩
theorem dv_isE {e1 e2 : Expr} {cv : Value} {k : V} {p pos : Pos} (T : ETab X.K X.mg CH cs) (c : EC X.K CH D) (hp : (a, oe) ∈ X.pn) (hc : oe.cls = .ref D) (hd : oe.dict = none) (hf : ∃ vs, oe.data = .fields vs) (hk : PySem.W.kitOne X.K (.ref D) cv = some b)
    (hg : Gl X "isinstance") (hm : X.mg "isinstance" = none) (h1 : PE X e1 (tVar i)) (h2 : PE X e2 (tC k)) (hr : ∀ u, RelV k u → u = cv)
    (he : starEach [e1, e2] X.env = (false, eval e1 X.env) :: starEach [e2] X.env := by rfl) (he2 : starEach [e2] X.env = (false, eval e2 X.env) :: starEach [] X.env := by rfl) (hpl : (backTo pos (starEach [e2] X.env)).any (·.1) = false := by rfl) :
    DV X (.Call (.Name "isinstance" p) [e1, e2] [] pos) (vIsE i a b) := by
  refine pe_imp (pe_callB (call_isE' T c hp hc hd hf) hg hm boot_isinstance (pa_cons h1 (pa_cons h2 pa_nil he2) he) (by decide) (by decide) he hpl) fun σ H Q q => ?_
  obtain ⟨P, ρ, FE, S, q⟩ := q
  unfold vIsE at q
  cases e : ρ[i]? with
  | none => simp only [e] at q
  | some o =>
    cases o with
    | none => simp only [e] at q
    | some d =>
      cases d with
      | gv v =>
        cases v with
        | ref a' =>
          simp only [e] at q
          by_cases z : a' = a
          · subst z
            simp only [if_pos] at q
            obtain ⟨v, ev, r⟩ := S.rel i _ e
            cases r
            exact ⟨_, ev, k, cv, b, rfl, hr, hk, q _ P H New.refl .bl⟩
          · simp only [if_neg z] at q
        | _ => simp only [e] at q
      | _ => simp only [e] at q
end
abbrev DIH (X : Cx) (RX : RXR) (W : WX) (tg e : Expr) (f : Ev → R (List D)) : Prop := L2H.PIH X tg e (tI X.K RX W f)
theorem dih_range1 {X : Cx} {RX : RXR} {W : WX} {tg a : Expr} {f : Ev → R (List D)} {p pos : Pos} (hg : Gl X "range") (hm : X.mg "range" = none) (ha : DA X RX W [a] f) (hs : starEach [a] X.env = [(false, eval a X.env)] := by rfl) : DIH X RX W tg (.Call (.Name "range" p) [a] [] pos) (fItN rng1 f) := by
  refine ⟨fun pins s σ H R I q => (L2H.pi_range1H hg hm ha hs).run pins s σ H R I ?_⟩
  exact a_it (C := fun vs H1 => ∃ j, vs = [.int j] ∧ -(2 ^ 62) ≤ j ∧ j < 2 ^ 62 ∧ R (Itr 0 j.toNat) H1) q fun P H1 ρ FE vs ds F ds' S T g k => by
    obtain ⟨j, rfl, h1, h2, rfl⟩ := rng1_ok g
    obtain ⟨v, rfl, r⟩ := rls1 T.rl
    cases r
    exact ⟨j, rfl, h1, h2, k _ walks_range⟩
theorem ds_setLcH {X : Cx} {RX : RXR} {W : WX} {s : Stmt} {n : Nat} {i : Ev → R (List D)} {t : D → Ev → Option Ev} {c : Ev → R Bool} {f : Ev → R D} {kp kpo vs : List Nat} (hkp : kp = (List.range X.N.length).filter fun j => decide (j ∉ vs))
    (h : PS X s (tAsg (tLc (tI X.K RX W i) (tG X.K kp t) (tT X.K RX (fun _ _ _ _ => False) c) (tE X.K RX (fun _ _ _ _ => False) f) vs) (gName n))) (hk : n ∉ kpo) : DS X RX W kpo s (fAsg (fLc i t c f vs) (gN n)) :=
  ds_set ⟨fun pins s σ H D I q => h.run pins s σ H D I (lc_ok hkp I.len q)⟩ hk
/-- all stands as it did, more may stand beside -/
def Up (H H' : Hp) : Prop := (∀ b o, H b = some o → NT o → H' b = some o) ∧ (∀ b, H b ≠ none → H' b ≠ none) ∧ LamX.Tabs TabC.T H'
def spW (cs : List Addr) : Addr × Obj → Sp := fun p vs H Q _ => vs = [.ref p.1] ∧ LamX.Tabs TabC.T H ∧ p.2.dict = none ∧ ∃ (i : Nat) (C : Addr) (n : Str), cs[i]? = some C ∧ excN[i]? = some n ∧ p.2.cls = .ref C ∧ ∀ H', Up H H' → Q (.str n) H'
/-- the def's body told by data: what it makes of an exception at a of the class of number i -/
theorem fnHp_word {P : Program} {w : World} {K : PySem.W.Frag} {mg : Str → Option Value} {base : Heap} {k n : Nat} {x qual : Str} {st : Stmt} {f : Addr} {fd : FuncData} {N ps : List Str} {cs : List Addr} {g : Addr → Nat → Ev → RS} (F : Fun K x qual st f fd) (S : FnScope N ps (defScope st)) (hl : ps.length = 1) (hn : N.length = n)
    (body : ∀ (cdv : Value) (A : Around) (outer : List Env) (s : Shared) (H : Hp) (E : XK) (p : Addr × Obj) (i : Nat) (C : Addr), cs[i]? = some C → p.2.cls = .ref C → p.2.dict = none → L2H.Hot1 A p → L2H.RoomH k (A.deeper (envOfC qual (defScope st) s.heap.objs.size f cdv)) →
      DSs (L2H.cxH (L2N.CX P w) P w K mg base N qual (defScope st) f cdv A outer s H E p) RX0 (fun _ _ _ _ => False) [] (defBody st) (g p.1 i))
    (sem : ∀ (a : Addr) (i : Nat) (nm : Str), excN[i]? = some nm → ∃ ρ', g a i (some (.gv (.ref a)) :: List.replicate (n - 1) none) = .rt (.str nm) ρ') :
    FnHp P w K mg base (L2N.CX P w) (k + 1) f fd ps (spW cs) := by
  refine fnHp_of F S (fun p vs H Q E h => by rw [h.1, hl]; rfl) fun cdv A outer s H vs Q E p hot hr h => ?_
  obtain ⟨rfl, tb, hd, i, C, nm, hi, hnm, hc, q⟩ := h
  refine ⟨_, body cdv A outer s H E p i C hi hc hd hot hr, ?_⟩
  obtain ⟨ρ', e⟩ := sem p.1 i nm hnm
  refine ⟨fun b => H b ≠ none, some (.gv (.ref p.1)) :: List.replicate (n - 1) none, fun _ => E_, ⟨fun b z => z, fun j b z => z.elim, fun j j' b z => z.elim, fun j d ej => ?_, ?_, TAB.all tb⟩, ?_⟩
  · match j, ej with
    | 0, ej =>
      cases ej
      have : 0 < N.length := by
        have := congrArg List.length S.pre
        rw [List.length_take] at this
        omega
      exact ⟨.ref p.1, rfl, .gv⟩
    | j + 1, ej =>
      simp only [List.getElem?_cons_succ, List.getElem?_replicate] at ej
      split at ej <;> cases ej
  · unfold L2.start
    simp only [List.length_cons, List.length_replicate, List.length_append, List.length_map, List.length_nil]
    omega
  · rw [e]
    intro v σ' P' H' FE' F' S' T' t k'
    cases T'.rl
    exact q H' ⟨fun b o eb => t.frame b o eb fun ⟨_, z⟩ => z, t.alive, S'.tab.1⟩
end Hap
namespace Hap
open PySem PySem.Spec PyProof.Rows L2
variable [TabC]
/-- what the suite does with an exception at a: it is at slot i; it gives back the datum that its name has -/
def tsW (K : PySem.W.Frag) (cs : List Addr) (i : Nat) (res : Str → D) : Addr → Value → Option Addr → TS := fun a cls d D σ H =>
  σ[i]? = some (some (.ref a)) ∧ LamX.Tabs TabC.T H ∧ d = none ∧ ∃ (j : Nat) (C : Addr) (nm : Str), cs[j]? = some C ∧ excN[j]? = some nm ∧ cls = .ref C ∧
    ∃ P : AS, (∀ b, P b → H b ≠ none) ∧ ∀ v P' H', New P H P' H' E_ → Rl true K P' H' (res nm) v E_ → D.rt v H'
def fTryH (res : Str → D) (g : Ev → RS) : Ev → RS := fun ρ => match g ρ with
  | .exc x ρ' => if x.args.isEmpty = true then .rt (res x.cls) ρ' else .stk
  | .nx ρ' => .nx ρ'
  | .rt d ρ' => .rt d ρ'
  | .bk ρ' => .bk ρ'
  | .ct ρ' => .ct ρ'
  | .stk => .stk
section
variable {X : Cx} {W : WX} {kp : List Nat} {CH : Addr} {cs : List Addr} {i : Nat} {x n : Str} {body suite : List Stmt} {b₀ : Stmt} {np pos pos' : Pos} {g : Ev → RS} {res : Str → D}
theorem ds_try (hs : X.stack = X.env :: X.outer) (hf : X.env.frame = some X.env.locals) (hN : X.N.Nodup) (hi : X.N[i]? = some n) (hln : X.env.kindOf n = some .local) (hc : Names X x (.ref CH)) (tk : L2N.Takes X W) (T : ETab X.K X.mg CH cs)
    (hb : ∀ (W' : WX) (pn : List (Addr × Obj)) (xe : Value → Shared → Prop), L2N.Takes (X.tr pn xe) W' → PassesOwn (model X.prog X.w) X.A X.env xe → DSs (X.tr pn xe) (RXP cs) W' kp body g)
    (hsu : ∀ (a : Addr) (oe : Obj) (cls : Value) (d : Option Addr) (pn : List (Addr × Obj)), L2N.Zn cls d oe → (∃ vs, oe.data = .fields vs) → PSs (X.suite a ((a, oe) :: pn)) (b₀ :: suite) (tsW X.K cs i res a cls d)) :
    DS X (RXP cs) W kp (.Try body [.ExceptHandler (some (.Name x np)) (some n) (b₀ :: suite) pos'] [] [] pos) (fTryH res g) := by
  refine ⟨fun pins s σ H D I q => (L2N.ps_try_as (tb := fun W' => tS X.K (RXP cs) W' kp g) hs hf hN hi hln hc tk hb hsu).run pins s σ H D I ?_⟩
  have ln := I.len
  obtain ⟨P, ρ, FE, S, q⟩ := q
  refine ⟨P, ρ, FE, S, ?_⟩
  unfold fTryH at q
  cases e : g ρ with
  | nx ρ1 => simp only [e] at q; exact q
  | rt d ρ1 => simp only [e] at q; exact q
  | bk ρ1 => simp only [e] at q; exact q
  | ct ρ1 => simp only [e] at q; exact q
  | stk => simp only [e] at q; exact q
  | exc y ρ1 =>
    simp only [e] at q
    intro cls dx σ' P' H' FE' S' t k' r
    obtain ⟨j, C, hj, hn, rfl, hx⟩ := r
    refine ⟨true, T.exmH hj, fun _ a na => ?_, fun z => by cases z⟩
    by_cases hz : y.args.isEmpty = true
    · simp only [if_pos hz] at q
      have hx' : dx = none := hx.elim (fun z => z.2) fun ⟨d, _, _, _, _, z⟩ => (z (List.isEmpty_iff.mp hz)).elim
      have hl : i < σ'.length := by
        have h1 := (List.getElem?_eq_some_iff.mp hi).1
        have h4 := k'.1
        omega
      refine ⟨List.getElem?_set_self hl, S'.tab.1, hx', j, C, y.cls, hj, hn, rfl, P', S'.pin, fun v P2 H2 n2 r2 => ?_⟩
      exact q v σ' P2 H2 FE' E_ (n2.stt S') (n2.tmp S' r2) (t.trans n2.tr) k'
    · rw [if_neg hz] at q; exact q.elim
end
section
variable {X : Cx} {CH : Addr} {cs : List Addr} {i k : Nat} {x : Str} {f : Addr} {fd : FuncData} {ps : List Str} {a : Addr} {oe : Obj} {cls : Value} {d : Option Addr} {pn : List (Addr × Obj)}
omit [TabC] in
theorem hot_of (h : L2N.Zn cls d oe) (hv : ∃ vs, oe.data = .fields vs) : L2H.Hot1 (X.suite a ((a, oe) :: pn)).A (a, oe) := by
  obtain ⟨vs, e⟩ := hv
  exact ⟨rfl, vs, e, h.2.2 vs e⟩
/-- the word of the exception -/
theorem pe_word {ee : Expr} {q pos : Pos} (F : FnHp X.prog X.w X.K X.mg X.base (L2N.CX X.prog X.w) k f fd ps (spW cs)) (hr : Room k X.A) (hz : L2N.Zn cls d oe) (hv : ∃ vs, oe.data = .fields vs) (hg : Gl X x) (hm : X.mg x = some (.ref f)) (hk : PySem.W.keepIn X.K (.ref f) = true) (hb : Binds X.K fd ps [])
    (he : PE (X.suite a ((a, oe) :: pn)) ee (tVar i)) (hdb : (x == ("__debug__" : Str)) = false := by decide) (hs : starEach [ee] X.env = (false, eval ee X.env) :: starEach [] X.env := by rfl) (hpl : (backTo pos (starEach [] X.env)).any (·.1) = false := by rfl) :
    PE (X.suite a ((a, oe) :: pn)) (.Call (.Name x q) [ee] [] pos) (fun σ H Q => σ[i]? = some (some (.ref a)) ∧ LamX.Tabs TabC.T H ∧ d = none ∧ ∃ (j : Nat) (C : Addr) (nm : Str), cs[j]? = some C ∧ excN[j]? = some nm ∧ cls = .ref C ∧ ∀ H', Up H H' → Q (.str nm) H') := by
  have c := pe_callHp (X := X.suite a ((a, oe) :: pn)) (p := (a, oe)) (q := q) (pos := pos) F ⟨hr.dp, hr.un⟩ (hot_of hz hv) List.mem_cons_self hg hm hk hb (pa_cons he pa_nil hs) hdb hs hpl
  refine pe_imp c fun σ H Q h => ?_
  obtain ⟨h1, h2, h3, j, C, nm, h4, h5, h6, h7⟩ := h
  exact ⟨_, h1, rfl, h2, hz.2.1.trans h3, j, C, nm, h4, h5, hz.1.trans h6, h7⟩
structure CalH (P : Program) (w : World) (K : PySem.W.Frag) (mg : Str → Option Value) (base : Heap) (cs : List Addr) (x : Str) (k : Nat) : Prop where
  ex : ∃ f fd ps, FnHp P w K mg base (L2N.CX P w) k f fd ps (spW cs) ∧ mg x = some (.ref f) ∧ PySem.W.keepIn K (.ref f) = true ∧ Binds K fd ps []
omit [TabC] in
theorem FnHp.mono {P : Program} {w : World} {K : PySem.W.Frag} {mg : Str → Option Value} {base : Heap} {CX : CXT} {j k : Nat} {f : Addr} {fd : FuncData} {ps : List Str} {sp : Addr × Obj → Sp} (F : FnHp P w K mg base CX j f fd ps sp) (h : j ≤ k) : FnHp P w K mg base CX k f fd ps sp :=
  ⟨F.len, fun A outer s H args us vs Q E p hr => F.run A outer s H args us vs Q E p (hr.mono h)⟩
theorem pe_wordC {ee : Expr} {q pos : Pos} {j0 : Nat} (C : CalH X.prog X.w X.K X.mg X.base cs x j0) (hr : Room k X.A) (hj : j0 ≤ k) (hz : L2N.Zn cls d oe) (hv : ∃ vs, oe.data = .fields vs) (hg : Gl X x)
    (he : PE (X.suite a ((a, oe) :: pn)) ee (tVar i)) (hdb : (x == ("__debug__" : Str)) = false := by decide) (hs : starEach [ee] X.env = (false, eval ee X.env) :: starEach [] X.env := by rfl) (hpl : (backTo pos (starEach [] X.env)).any (·.1) = false := by rfl) :
    PE (X.suite a ((a, oe) :: pn)) (.Call (.Name x q) [ee] [] pos) (fun σ H Q => σ[i]? = some (some (.ref a)) ∧ LamX.Tabs TabC.T H ∧ d = none ∧ ∃ (j : Nat) (C : Addr) (nm : Str), cs[j]? = some C ∧ excN[j]? = some nm ∧ cls = .ref C ∧ ∀ H', Up H H' → Q (.str nm) H') := by
  obtain ⟨f, fd, ps, F, hm, hk, hb⟩ := C.ex
  exact pe_word F (hr.mono hj) hz hv hg hm hk hb he hdb hs hpl
theorem Up.new {P : AS} {H H' : Hp} (u : Up H H') (pin : ∀ b, P b → H b ≠ none) : New P H (pinN P H H') H' E_ := New.pinN u.1 u.2.1 u.2.2 pin fun _ z => z.elim
/-- return word(e) -/
theorem su_word {e : Expr} {pos : Pos} (he : PE (X.suite a ((a, oe) :: pn)) e (fun σ H Q => σ[i]? = some (some (.ref a)) ∧ LamX.Tabs TabC.T H ∧ d = none ∧ ∃ (j : Nat) (C : Addr) (nm : Str), cs[j]? = some C ∧ excN[j]? = some nm ∧ cls = .ref C ∧ ∀ H', Up H H' → Q (.str nm) H')) :
    PSs (X.suite a ((a, oe) :: pn)) [.Return (some e) pos] (tsW X.K cs i D.str a cls d) := by
  refine pss_imp (pss_one (ps_ret he)) fun D σ H h => ?_
  obtain ⟨h1, h2, h3, j, C, nm, h4, h5, h6, P, h7, h8⟩ := h
  exact ⟨h1, h2, h3, j, C, nm, h4, h5, h6, fun H' u => h8 _ _ H' (u.new h7) .str⟩
end
end Hap
namespace Hap
open PySem PySem.Spec PyProof.Rows L2
variable [TabC]
def b_word (a : Addr) (i : Nat) : Ev → RS :=
  (fSeq (fAsg (fLst (fCons (fI (vIsE 0 a (decide (i = 0)))) (fCons (fI (vIsE 0 a (decide (i = 1)))) (fCons (fI (vIsE 0 a (decide (i = 2)))) (fCons (fI (vIsE 0 a (decide (i = 3)))) fNil))))) (gN 1))
    (fSeq (fAsg (fOp2V gAdd (fVar 1) (vLst (vCons (vIsE 0 a (decide (i = 4))) (vCons (vIsE 0 a (decide (i = 5))) (vCons (vIsE 0 a (decide (i = 6))) (vCons (vIsE 0 a (decide (i = 7))) vNil)))))) (gN 1))
    (fSeq (fAsg (fOp2V gAdd (fVar 1) (vLst (vCons (vIsE 0 a (decide (i = 8))) (vCons (vIsE 0 a (decide (i = 9))) (vCons (vIsE 0 a (decide (i = 10))) (vCons (vIsE 0 a (decide (i = 11))) vNil)))))) (gN 1))
    (fSeq (fAsg (fOp2V gAdd (fVar 1) (vLst (vCons (vIsE 0 a (decide (i = 12))) (vCons (vIsE 0 a (decide (i = 13))) (vCons (vIsE 0 a (decide (i = 14))) vNil))))) (gN 1))
    (fSeq (fAsg (fLst (fCons (fK (.str "NoHouse")) (fCons (fK (.str "NoRow")) (fCons (fK (.str "NoMachine")) (fCons (fK (.str "NoRoom")) (fCons (fK (.str "NoHand")) (fCons (fK (.str "Unlike")) (fCons (fK (.str "NoPast")) (fCons (fK (.str "TooMany")) (fCons (fK (.str "Torn")) (fCons (fK (.str "NoTable")) fNil))))))))))) (gN 2))
    (fSeq (fAsg (fOp2V gAdd (fVar 2) (vLst (vCons (vK (.str "NoSet")) (vCons (vK (.str "Falls")) (vCons (vK (.str "Whole")) (vCons (vK (.str "NoText")) (vCons (vK (.str "NoWord")) vNil))))))) (gN 2))
    (fSeq (fAsg (fLc (fItN rng1 (fCons (fK (.int 15)) fNil)) (gN 4) (fTv (vOp2 gIx (vVar 1) (vVar 4))) (fI (vOp2 gIx (vVar 2) (vVar 4))) [4]) (gN 3))
    (fSeq (fIf (fOr (fTv (vOp2 gNe (vOpN gLen (vCons (vVar 3) vNil)) (vK (.int 1)))) (fNot (fTv (vIsE 0 a true)))) (fRet (fK (.str "else"))) fNext)
    (fRet (fI (vOp2 gIx (vVar 3) (vK (.int 0)))))))))))))
omit [TabC] in
@[simp] theorem ap_isE {i : Nat} {a : Addr} {b : Bool} {ρ : Ev} (h : ρ[i]? = some (some (.gv (.ref a)))) : vIsE i a b ρ = some (.bl b) := by
  unfold vIsE; rw [h]; simp
omit [TabC] in
theorem word_lc (a : Addr) (i : Nat) (hi : i < 15) : (fLc (fItN rng1 (fCons (fK (.int 15)) fNil)) (gN 4) (fTv (vOp2 gIx (vVar 1) (vVar 4))) (fI (vOp2 gIx (vVar 2) (vVar 4))) [4]) [some (.gv (.ref a)), some (.lst true ((List.range 15).map fun k => .bl (decide (i = k)))), some (.lst true (excN.map D.str)), none, none]
    = .ok (.lst true [.str (excN.getD i "")]) [some (.gv (.ref a)), some (.lst true ((List.range 15).map fun k => .bl (decide (i = k)))), some (.lst true (excN.map D.str)), none, none] := by
  have hf : (List.range 15).filter (fun k => decide (i = k)) = [i] := (by decide : ∀ j : Fin 15, (List.range 15).filter (fun k => decide (j.1 = k)) = [j.1]) ⟨i, hi⟩
  have := lc_map (i := fItN rng1 (fCons (fK (.int 15)) fNil)) (t := gN 4) (c := fTv (vOp2 gIx (vVar 1) (vVar 4))) (f := fI (vOp2 gIx (vVar 2) (vVar 4))) (vs := [4]) (g := fun k : Nat => .int (k : Int)) (p := fun k => decide (i = k)) (e := fun k => D.str (excN.getD k "")) (xs := List.range 15)
    (ρ := [some (.gv (.ref a)), some (.lst true ((List.range 15).map fun k => .bl (decide (i = k)))), some (.lst true (excN.map D.str)), none, none]) (ρ1 := [some (.gv (.ref a)), some (.lst true ((List.range 15).map fun k => .bl (decide (i = k)))), some (.lst true (excN.map D.str)), none, none])
    (by have := rng1_n (n := 15) (by omega); simp only [ap_itN, ap_cons, ap_k, ap_nil, bind_ok]; rw [show (D.int 15) = D.int ((15 : Nat) : Int) from rfl, this]; rfl) rfl (by decide) (fun k hk => by
      have hk' := List.mem_range.mp hk
      have e1 : gIx (.lst true ((List.range 15).map fun k => .bl (decide (i = k)))) (.int (k : Int)) = some (.bl (decide (i = k))) := by
        rw [ix_l, at_nat, List.getElem?_map, List.getElem?_range hk']; rfl
      have e2 : gIx (.lst true (excN.map D.str)) (.int (k : Int)) = some (.str (excN.getD k "")) := by
        have hl : k < excN.length := hk'
        rw [ix_l, at_nat, List.getElem?_map, List.getElem?_eq_getElem hl, List.getD_eq_getElem?_getD, List.getElem?_eq_getElem hl]; rfl
      let ρ2 : Ev := [some (.gv (.ref a)), some (.lst true ((List.range 15).map fun k => .bl (decide (i = k)))), some (.lst true (excN.map D.str)), none, some (.int (k : Int))]
      refine ⟨ρ2, rfl, ρ2, ?_, fun _ => ⟨ρ2, ?_, rfl⟩, fun _ => rfl⟩
      · simp only [ap_tv, ap_v2, ap_vvar, ρ2, List.getElem?_cons_succ, List.getElem?_cons_zero, varV_s, Option.bind_some, e1, blV_s]
      · simp only [ap_I, ap_v2, ap_vvar, ρ2, List.getElem?_cons_succ, List.getElem?_cons_zero, varV_s, Option.bind_some, e2, immR_s, imm_str, if_true])
  rw [hf] at this
  exact this
theorem word_sem (a : Addr) (i : Nat) (nm : Str) (h : excN[i]? = some nm) : ∃ ρ', b_word a i (some (.gv (.ref a)) :: List.replicate (5 - 1) none) = .rt (.str nm) ρ' := by
  have hi : i < 15 := (List.getElem?_eq_some_iff.mp h).1
  have hs : 15 ≤ sizeLine := by decide
  have lc := word_lc a i hi
  rw [List.getD_eq_getElem?_getD, h] at lc
  simp only [show (List.range 15).map (fun k => D.bl (decide (i = k))) = [.bl (decide (i = 0)), .bl (decide (i = 1)), .bl (decide (i = 2)), .bl (decide (i = 3)), .bl (decide (i = 4)), .bl (decide (i = 5)), .bl (decide (i = 6)), .bl (decide (i = 7)), .bl (decide (i = 8)), .bl (decide (i = 9)), .bl (decide (i = 10)), .bl (decide (i = 11)), .bl (decide (i = 12)), .bl (decide (i = 13)), .bl (decide (i = 14))] from rfl, excN, List.map_cons, List.map_nil] at lc
  unfold b_word
  rw [Option.getD_some] at lc
  simp [sizeLine, lc, add_ll]
omit [TabC] in
theorem room64H {k : Nat} {A : Around} (r : L2H.RoomH k A) : A.units + 64 < cLine := by have := r.un; omega
omit [TabC] in
theorem room1H {k : Nat} {A : Around} (r : L2H.RoomH k A) : A.units + 1 < cLine := by have := r.un; omega
/-- the classes, and that those without an own __init__ are made with a text -/
structure ETx (K : PySem.W.Frag) (mg : Str → Option Value) (CH : Addr) (cs : List Addr) : Prop where
  tab : ETab K mg CH cs
  ex : ∀ i, i ≠ 8 → i ≠ 11 → ∀ C, cs[i]? = some C → PySem.W.excIn K C bmV "ValueError.__new__" = true
def spTop (K : PySem.W.Frag) (io : List Bool) (sem : Fn) : Sp := fun vs H Q E => ∀ RX : RXR, spD K RX io sem vs H Q E
theorem fnOk_top {P : Program} {w : World} {K : PySem.W.Frag} {mg : Str → Option Value} {base : Heap} {CX : CXT} {k : Nat} {f : Addr} {fd : FuncData} {ps : List Str} {RX : RXR} {io : List Bool} {sem : Fn} (F : FnOk P w K mg base CX k f fd ps (spD K RX io sem)) : FnOk P w K mg base CX k f fd ps (spTop K io sem) :=
  ⟨fun vs H Q E h => F.len vs H Q E (h RX), fun A outer s H args us vs Q E hr e0 hb r h => F.run A outer s H args us vs Q E hr e0 hb r (h RX)⟩
theorem walkDX {l : PySem.W.OpenLaw} {k : Nat} {q : Program} {loose : List Str} {XP : (Str → Option Value) → Heap → Prop} {YP : World → Heap → Prop} {d : DefRec} {K : Params → PySem.W.Frag} {x : Str} {sem : Fn} (hT0 : TabC.T = []) (hn : l.most = some 63) (hdf : d.params.defaults = [])
    (hk : k ≤ 60) (hY : ∀ (w : World) (h : Heap), YP w h → (K w.params).In h)
    (F : ∀ (w : World) (mg : Str → Option Value) (fa : Addr) (h : Heap), (K w.params).In h → h.Ns mainGlobals mg → mg d.name = some (.ref fa) →
      ∃ fd : FuncData, (∀ (s : Shared) (u : Value), BindsTo s fd ⟨[u], []⟩ [(x, u)]) ∧ ∀ base : Heap, (K w.params).In base → base.Ns mainGlobals mg → FnOk l.prog w (K w.params) mg base (L2N.CX l.prog w) k fa fd [x] (spTop (K w.params) (List.replicate 1 false) sem))
    (hm : ∀ ns : List Int, ns.length ≤ 63 → ∃ o, sem [.rol (ns.map D.int)] = .rt (.bl true) o) :
    PySem.W.WalkO q loose XP YP l.row.toRowW d [] (fun f vs => PySem.call f vs) :=
  L2.walk_of (n := 63) (k := k) (x := x) (CX := fun w => L2N.CX l.prog w) (sp := fun w => spTop (K w.params) (List.replicate 1 false) sem) hn (by decide) hdf (Room.mono (k := 60) ⟨rfl, by decide, by decide⟩ hk) hY F
    (fun w H a ns hl hO hS => fun RX => law_sp (fun p hp => by rw [hT0] at hp; exact absurd hp (by simp)) hS (hm ns hl)) fun w H s e s' h => hCX0 h
end Hap
namespace Hap
open PySem PySem.Spec PyProof.Rows L2
variable [TabC]
def fFz (f : Ev → R D) : Ev → R D := fun ρ => (f ρ).bind fun d ρ' => .ok (frz d) ρ'
omit [TabC] in
@[simp] theorem ap_fz {f : Ev → R D} {ρ : Ev} : fFz f ρ = (f ρ).bind fun d ρ' => .ok (frz d) ρ' := (rfl)
end Hap
namespace Hap
open PySem PySem.Spec PyProof.Rows L2
def tryR (res : Str → D) (r : RS) : RS := match r with
  | .exc x ρ' => if x.args.isEmpty = true then .rt (res x.cls) ρ' else .stk
  | .nx ρ' => .nx ρ'
  | .rt d ρ' => .rt d ρ'
  | .bk ρ' => .bk ρ'
  | .ct ρ' => .ct ρ'
  | .stk => .stk
section
variable {ρ : Ev} {d : D} {res : Str → D} {n : Str} {g : Ev → RS}
@[simp] theorem ap_try : fTryH res g ρ = tryR res (g ρ) := by unfold fTryH tryR; rfl
@[simp] theorem ap_raise : fRaise n ρ = .exc ⟨n, []⟩ ρ := (rfl)
@[simp] theorem tryR_exc : tryR res (.exc ⟨n, []⟩ ρ) = .rt (res n) ρ := (rfl)
@[simp] theorem tryR_nx : tryR res (.nx ρ) = .nx ρ := (rfl)
@[simp] theorem tryR_rt : tryR res (.rt d ρ) = .rt d ρ := (rfl)
end
theorem eqd_str : EqD D.str := fun x y => by
  simp only [toPy, PyData.eqv]; rfl
def StrOk (x : Str) : Prop := ∀ c ∈ x.cps.toList, c < 0x110000
theorem sh_strOk {x : Str} {n : Nat} (h : StrOk x) : Sh n (.str x) := sh_str h
end Hap
namespace Hap
open PySem PySem.Spec PyProof.Rows L2
end Hap
namespace Hap
open PySem PySem.Spec PyProof.Rows L2
variable [TabC]
/-- what is wished of a refusal -/
def EAns (K : PySem.W.Frag) (cs : List Addr) (Q : VK) : XK := fun cls d H => d = none ∧ LamX.Tabs TabC.T H ∧ ∃ (j : Nat) (C : Addr) (nm : Str), cs[j]? = some C ∧ excN[j]? = some nm ∧ cls = .ref C ∧
  ∃ P : AS, (∀ b, P b → H b ≠ none) ∧ ∀ v P' H', New P H P' H' E_ → Rl true K P' H' (.tup [.str "refused", .str nm]) v E_ → Q v H'
def TAns (K : PySem.W.Frag) (cs : List Addr) (tl : XK → Hp → VK → Prop) (H : Hp) (Q : VK) : Prop := ∀ (E' : XK) (Q' : VK), (∀ cls d H', EAns K cs Q cls d H' → E' cls d H') →
  (∀ v H', (∀ p, H' p = none → Q (.ref p) (upd H' p (.tup [.str "told", v]))) → Q' v H') → tl E' H Q'
omit [TabC] in
theorem Up.stt [TabC] {K : PySem.W.Frag} {P : AS} {H H' : Hp} {ρ : Ev} {σ : L2.St} {FE : FP} (u : Up H H') (S : Stt K P H ρ σ FE) : Stt K (pinN P H H') H' ρ σ FE := (u.new (P := P) S.pin).stt S
theorem Up.trans {H H1 H2 : Hp} (u : Up H H1) (v : Up H1 H2) : Up H H2 := ⟨fun b o e n => v.1 b o (u.1 b o e n) n, fun b e => v.2.1 b (u.2.1 b e), v.2.2⟩
mutual
/-- every list and dict one's own; tuples -/
def newAll : D → Bool
  | .lst o xs => o && newAlls xs
  | .dct o _ xs => o && newAlls xs
  | .dcT o _ xs => o && newAlls xs
  | .tup xs => newAlls xs
  | .rol _ => false
  | .gv _ => false
  | .obj _ _ _ _ => false
  | _ => true
def newAlls : List D → Bool
  | [] => true
  | d :: ds => newAll d && newAlls ds
end
def fAns (g : Ev → R D) : Ev → R D := fun ρ => match g (frzE ρ) with
  | .ok d _ => if newAll d = true then .ok (.tup [.str "told", d]) ρ else .stk
  | .exc x _ => if x.args.isEmpty = true then .ok (.tup [.str "refused", .str x.cls]) ρ else .stk
  | .stk => .stk
/-- the refusal alone -/
def fRef (g : Ev → R D) (n : Str) : Ev → R D := fun ρ => match g (frzE ρ) with
  | .exc x _ => if x.args.isEmpty = true then .ok (.bl (decide (x.cls = n))) ρ else .stk
  | _ => .stk
end Hap
namespace Hap
open PySem PySem.Spec PyProof.Rows L2
variable [TabC]
theorem TAns.imp {K : PySem.W.Frag} {cs : List Addr} {tl : XK → Hp → VK → Prop} {H : Hp} {Q Q' : VK} (h : TAns K cs tl H Q) (w : ∀ v H', Q v H' → Q' v H') : TAns K cs tl H Q' := fun E1 Q1 hE hQ => by
  refine h E1 Q1 (fun cls d H' z => hE cls d H' ?_) fun v H' z => hQ v H' fun p hp => w _ _ (z p hp)
  obtain ⟨h1, h2, j, C, nm, h3, h4, h5, P, h6, h7⟩ := z
  exact ⟨h1, h2, j, C, nm, h3, h4, h5, P, h6, fun v P' H'' n r => w _ _ (h7 v P' H'' n r)⟩
end Hap
namespace Hap
open PySem PySem.Spec PyProof.Rows L2
end Hap
namespace Hap
open PySem PySem.Spec PyProof.Rows L2
variable [TabC]
def gUpper (d : D) : Option D := match d with
  | .str x => if x.length ≤ 5592405 then some (.str (Txt.upper x)) else none
  | _ => none
omit [TabC] in
@[simp] theorem upper_s {x : Str} : gUpper (.str x) = if x.length ≤ 5592405 then some (.str (Txt.upper x)) else none := (rfl)
end Hap
namespace Hap
open PySem PySem.Spec PyProof.Rows L2
def refR (r : R D) (n : Str) (ρ : Ev) : R D := match r with
  | .exc x _ => if x.args.isEmpty = true then .ok (.bl (decide (x.cls = n))) ρ else .stk
  | _ => .stk
def ansR (r : R D) (ρ : Ev) : R D := match r with
  | .ok d _ => if newAll d = true then .ok (.tup [.str "told", d]) ρ else .stk
  | .exc x _ => if x.args.isEmpty = true then .ok (.tup [.str "refused", .str x.cls]) ρ else .stk
  | .stk => .stk
section
variable {g : Ev → R D} {ρ ρ' : Ev} {n c : Str} {d : D}
@[simp] theorem ap_refL : fRef g n ρ = refR (g (frzE ρ)) n ρ := by unfold fRef refR; rfl
@[simp] theorem refR_exc : refR (.exc ⟨c, []⟩ ρ') n ρ = .ok (.bl (decide (c = n))) ρ := (rfl)
@[simp] theorem ap_ansL : fAns g ρ = ansR (g (frzE ρ)) ρ := by unfold fAns ansR; rfl
@[simp] theorem ansR_exc : ansR (.exc ⟨c, []⟩ ρ') ρ = .ok (.tup [.str "refused", .str c]) ρ := (rfl)
@[simp] theorem ansR_ok : ansR (.ok d ρ') ρ = if newAll d = true then .ok (.tup [.str "told", d]) ρ else .stk := (rfl)
end
section
variable {d : D} {ds : List D}
@[simp] theorem nw_int {i} : newAll (.int i) = true := (rfl)
@[simp] theorem nw_bl {i} : newAll (.bl i) = true := (rfl)
@[simp] theorem nw_str {i} : newAll (.str i) = true := (rfl)
@[simp] theorem nw_non : newAll .non = true := (rfl)
@[simp] theorem nw_lst : newAll (.lst true ds) = newAlls ds := (by simp [newAll])
@[simp] theorem nw_tup : newAll (.tup ds) = newAlls ds := (by simp [newAll])
@[simp] theorem nws_nil : newAlls [] = true := (rfl)
@[simp] theorem nws_cons : newAlls (d :: ds) = (newAll d && newAlls ds) := (rfl)
end
end Hap
namespace Hap
open PySem PySem.Spec PyProof.Rows L2
variable [TabC]
def gRevL (d : D) : Option D := match d with
  | .lst _ xs => if isImms xs = true then some (.lst true xs.reverse) else none
  | _ => none
omit [TabC] in
@[simp] theorem revL_l {o : Bool} {xs : List D} : gRevL (.lst o xs) = if isImms xs = true then some (.lst true xs.reverse) else none := (rfl)
end Hap
namespace Hap
open PySem PySem.Spec PyProof.Rows L2
variable [TabC]
section
variable {K : PySem.W.Frag} {P : AS} {H : Hp}
def appP : List Int → D → D → Option D
  | [], e, d => (match d with
    | .lst true xs => if xs.length < sizeLine then some (.lst true (xs ++ [e])) else none
    | _ => none)
  | j :: js, e, d => (match d with
    | .tup ds => (ixN ds.length j).bind fun k => (ds[k]?).bind fun d0 => (appP js e d0).map fun d' => .tup (ds.set k d')
    | .lst true ds => (ixN ds.length j).bind fun k => (ds[k]?).bind fun d0 => (appP js e d0).map fun d' => .lst true (ds.set k d')
    | _ => none)
end
def fAppP (i : Nat) (js : List Int) (n : Int) : Ev → RS := fun ρ => match ρ[i]? with
  | some (some d) => (match appP js (.int n) d with
    | some d2 => .nx (ρ.set i (some d2))
    | none => .stk)
  | _ => .stk
def setQ (o : Option D) (i : Nat) (ρ : Ev) : RS := match o with
  | some d2 => .nx (ρ.set i (some d2))
  | none => .stk
def setP (js : List Int) (n : Int) (o : Option (Option D)) (i : Nat) (ρ : Ev) : RS := match o with
  | some (some d) => setQ (appP js (.int n) d) i ρ
  | _ => .stk
section
variable {ρ : Ev} {i : Nat} {js : List Int} {n : Int} {d : D}
omit [TabC]
@[simp] theorem ap_appP : fAppP i js n ρ = setP js n ρ[i]? i ρ := (rfl)
@[simp] theorem setP_s : setP js n (some (some d)) i ρ = setQ (appP js (.int n) d) i ρ := (rfl)
@[simp] theorem setQ_s : setQ (some d) i ρ = .nx (ρ.set i (some d)) := (rfl)
end
def gSplit (d : D) (ds : List D) : Option D := match d with
  | .str a => (match ds with
    | [.str b] => if (b.length == 0) = false ∧ a.length + 2 ≤ sizeLine then some (.lst true ((Txt.split a b).map D.str)) else none
    | _ => none)
  | _ => none
section
omit [TabC]
@[simp] theorem split_s {a b : Str} : gSplit (.str a) [.str b] = if (b.length == 0) = false ∧ a.length + 2 ≤ sizeLine then some (.lst true ((Txt.split a b).map D.str)) else none := (rfl)
end
end Hap
namespace Hap
open PySem PySem.Spec PyProof.Rows L2
variable [TabC]
section
variable {K : PySem.W.Frag} {P : AS} {H H' : Hp} {p : Addr}
/-- the heap but for the lock at p -/
structure Lk (H H' : Hp) (p : Addr) : Prop where
  ne : ∀ b, b ≠ p → H' b = H b
  rd : ∀ kvs, Rd H p (.dK kvs) → Rd H' p (.dK kvs)
  rdT : ∀ kvs, Rd H p (.dT kvs) → Rd H' p (.dT kvs)
  al : H' p ≠ none
  dk : (∃ kvs, Rd H p (.dK kvs)) ∨ ∃ kvs, Rd H p (.dT kvs)
omit [TabC] in
theorem Lk.rdK (l : Lk H H' p) {b : Addr} {kvs : List (Key × V)} (e : Rd H b (.dK kvs)) : Rd H' b (.dK kvs) := by
  by_cases c : b = p
  · subst c; exact l.rd kvs e
  · exact rd_mono e (fun e => by rw [l.ne b c]; exact e) fun o e => by rw [l.ne b c]; exact e
omit [TabC] in
theorem Lk.rdT' (l : Lk H H' p) {b : Addr} {kvs : List (List Key × V)} (e : Rd H b (.dT kvs)) : Rd H' b (.dT kvs) := by
  by_cases c : b = p
  · subst c; exact l.rdT kvs e
  · exact rd_mono e (fun e => by rw [l.ne b c]; exact e) fun o e => by rw [l.ne b c]; exact e
omit [TabC] in
theorem Lk.other (l : Lk H H' p) {b : Addr} {u : HO} (e : H b = some u) (n1 : ∀ kvs, u ≠ .dK kvs) (n2 : ∀ o kvs, u ≠ .frz o (.dK kvs)) (n3 : ∀ kvs, u ≠ .dT kvs := by exact fun _ z => nomatch z) (n4 : ∀ o kvs, u ≠ .frz o (.dT kvs) := by exact fun _ _ z => nomatch z) : H' b = some u := by
  rw [l.ne]
  · exact e
  · intro c; subst c
    rcases l.dk with ⟨kvs, e1 | ⟨o, e1⟩⟩ | ⟨kvs, e1 | ⟨o, e1⟩⟩
    · rw [e1] at e; cases e; exact n1 _ rfl
    · rw [e1] at e; cases e; exact n2 _ _ rfl
    · rw [e1] at e; cases e; exact n3 _ rfl
    · rw [e1] at e; cases e; exact n4 _ _ rfl
omit [TabC] in
mutual
theorem rl_lk {F : AS} {d : D} {v : V} (l : Lk H H' p) (h : Rl true K P H d v F) (hF : ∀ b, F b → b ≠ p) : Rl true K P H' d v F := by
  cases h with
  | non => exact .non
  | bl => exact .bl
  | int => exact .int
  | str => exact .str
  | lstO e f s r => exact .lstO (l.other e (fun _ z => nomatch z) fun _ _ z => nomatch z) f s (rls_lk l r fun b z => hF b (s b z).1)
  | lstI e q i r => exact .lstI (l.other e (fun _ z => nomatch z) fun _ _ z => nomatch z) q i (rls_lk l r fun b z => z.elim)
  | tup e q r => exact .tup (l.other e (fun _ z => nomatch z) fun _ _ z => nomatch z) q (rls_lk l r hF)
  | dctO e k n f s r => exact .dctO (by rw [l.ne _ (hF _ (f rfl))]; exact e) k n f s (rls_lk l r fun b z => hF b (s b z).1)
  | dctI e k n q i r => exact .dctI (l.rdK e) k n q i (rls_lk l r fun b z => z.elim)
  | dcTO e k n f s r => exact .dcTO (by rw [l.ne _ (hF _ (f rfl))]; exact e) k n f s (rls_lk l r fun b z => hF b (s b z).1)
  | dcTI e k n q i r => exact .dcTI (l.rdT' e) k n q i (rls_lk l r fun b z => z.elim)
  | rol e i r =>
    refine .rol ?_ i (rls_lk l r fun b z => z.elim)
    rcases e with ⟨hp, e | ⟨o, e⟩⟩ | e
    · exact .inl ⟨hp, .inl (l.other e (fun _ z => nomatch z) fun _ _ z => nomatch z)⟩
    · exact .inl ⟨hp, .inr ⟨o, l.other e (fun _ z => nomatch z) fun _ _ z => nomatch z⟩⟩
    · exact .inr e
  | gv => exact .gv
  | objO e k n f s r => exact .objO (l.other e (fun _ z => nomatch z) fun _ _ z => nomatch z) k n f s (rls_lk l r fun b z => hF b (s b z).1)
  | objI e k n q i r => exact .objI (l.other e (fun _ z => nomatch z) fun _ _ z => nomatch z) k n q i (rls_lk l r fun b z => z.elim)
theorem rls_lk {F : AS} {ds : List D} {vs : List V} (l : Lk H H' p) (h : Rls true K P H ds vs F) (hF : ∀ b, F b → b ≠ p) : Rls true K P H' ds vs F := by
  cases h with
  | nil => exact .nil
  | cons r rs s1 s2 dj => exact .cons (rl_lk l r fun b z => hF b (s1 b z)) (rls_lk l rs fun b z => hF b (s2 b z)) s1 s2 dj
end
omit [TabC] in
theorem tabs_lk {T : List (Addr × Str)} (l : Lk H H' p) (t : LamX.Tabs T H) : LamX.Tabs T H' := fun q hq => by
  obtain ⟨ps, h1, h2, h3⟩ := t q hq
  refine ⟨ps, l.other h1 (fun _ z => nomatch z) (fun _ _ z => nomatch z), h2, fun pos cv hc => ?_⟩
  obtain ⟨c, e1, e2⟩ := h3 pos cv hc
  exact ⟨c, e1, l.other e2 (fun _ z => by unfold LamX.CodeO at z; cases z) (fun _ _ z => by unfold LamX.CodeO at z; cases z) (fun _ z => by unfold LamX.CodeO at z; cases z) fun _ _ z => by unfold LamX.CodeO at z; cases z⟩
theorem tab_lk (l : Lk H H' p) (hp : P p) (t : TAB P H) : TAB P H' := ⟨tabs_lk l t.1, fun b e => by
  by_cases c : b = p
  · subst c; exact hp
  · rw [l.ne b c] at e; exact t.2 b e⟩
theorem Stt.lk {ρ : Ev} {σ : L2.St} {FE : FP} (l : Lk H H' p) (hp : P p) (S : Stt K P H ρ σ FE) : Stt K P H' ρ σ FE := by
  have al : ∀ b, H b ≠ none → H' b ≠ none := fun b h => by
    by_cases c : b = p
    · subst c; exact l.al
    · rw [l.ne b c]; exact h
  refine ⟨fun b q => al b (S.pin b q), fun i b q => ⟨al b (S.fin i b q).1, (S.fin i b q).2⟩, S.dj, fun i d e => ?_, S.len, tab_lk l hp S.tab⟩
  obtain ⟨v, e1, r⟩ := S.rel i d e
  exact ⟨v, e1, rl_lk l r fun b z c => (S.fin i b z).2 (by rw [c]; exact hp)⟩
end
/-- the keys as data -/
def keyD : Key → D
  | .inl n => .int n
  | .inr x => .str x
omit [TabC] in
theorem keyD_rl {z : Bool} {K : PySem.W.Frag} {P : AS} {H : Hp} {k : Key} {F : AS} : Rl z K P H (keyD k) (kV k) F := by
  cases k with
  | inl n => exact .int
  | inr x => exact .str
def iKey (i : Nat) : Ev → R (List D) := fun ρ => match ρ[i]? with
  | some (some (.dct false ks _)) => .ok (ks.map keyD) ρ
  | _ => .stk
section
variable {ρ : Ev} {i : Nat}
def keyR (o : Option (Option D)) (ρ : Ev) : R (List D) := match o with
  | some (some (.dct false ks _)) => .ok (ks.map keyD) ρ
  | _ => .stk
omit [TabC] in
@[simp] theorem ap_key : iKey i ρ = keyR ρ[i]? ρ := by unfold iKey keyR; rfl
omit [TabC] in
@[simp] theorem keyR_s {ks : List Key} {xs : List D} : keyR (some (some (.dct false ks xs))) ρ = .ok (ks.map keyD) ρ := (rfl)
end
end Hap
namespace ZN
open PySem PySem.Spec PyProof.Rows L2
abbrev ZipF (h : Heap) (z TI TO : Addr) (f0 : Value) (f : Bool) : Prop :=
  h.get? z = some { cls := .type "zip", dict := none, data := .fields #[f0, .bool f, .bool false, .ref TI, .ref TO], slots := #[] }
/-- a zip between two turns -/
def Zf (h : Heap) (z TI TO : Addr) : Prop := ∃ f0 f, ZipF h z TI TO f0 f ∧ (f0 = .none ∨ ∃ T : Nat, f0 = rawInt (T : Int))
end ZN
namespace ZN
open PySem PySem.Spec PyProof.Rows L2
/-- a zip of two lists, k pairs on -/
structure Zst (h : Heap) (z TI TO i1 i2 l1 l2 : Addr) (k : Nat) : Prop where
  zf : Zf h z TI TO
  ti : IsPair h TI (.ref i1) (.ref i2)
  to : ∃ a b, IsPair h TO a b
  it1 : h.IsListIter i1 l1 k
  it2 : h.IsListIter i2 l2 k
theorem Zst.keep {h h' : Heap} {z TI TO i1 i2 l1 l2 : Addr} {k : Nat} (s : Zst h z TI TO i1 i2 l1 l2 k) (hk : ∀ b ∈ [z, TI, TO, i1, i2], ∀ o, h.get? b = some o → h'.get? b = some o) : Zst h' z TI TO i1 i2 l1 l2 k where
  zf := let ⟨f0, f, e, r⟩ := s.zf; ⟨f0, f, hk z (by simp) _ e, r⟩
  ti := hk TI (by simp) _ s.ti
  to := let ⟨a, b, e⟩ := s.to; ⟨a, b, hk TO (by simp) _ e⟩
  it1 := s.it1.at fun o q => hk i1 (by simp) o q
  it2 := s.it2.at fun o q => hk i2 (by simp) o q
end ZN
namespace Hap
open PySem PySem.Spec PyProof.Rows L2
end Hap
namespace M
open PySem PySem.Spec PyProof.Rows L2 Hap
def b__law_bag : Ev → RS :=
  (fSeq (fIf (fTv (vOp2 gGe (vOpN gAbs (vCons (vVar 0) vNil)) (vOp2 gPow (vK (.int 10)) (vK (.int 18)))))
    (fRet (fLst (fCons (fI (vOpN gAbs (vCons (vVar 0) vNil))) (fCons (fK (.int 0)) fNil))))
    fNext)
    (fRet (fLst (fCons (fI (vOp2 gMod (vVar 0) (vK (.int 2147483647)))) (fCons (fK (.int 1)) fNil)))))
def m__law_bag : Fn := semOf (List.replicate 1 false) 1 b__law_bag
def b__law_take : Ev → RS :=
  (fSeq (fIf (fTv (vOp2 gEq (vOp2 gIx (vVar 0) (vK (.int 1))) (vK (.int 0))))
    (fSeq (fAsg (fI (vOp2 gMod (vOp2 gIx (vVar 0) (vK (.int 0))) (vVar 1))) (gN 2))
    (fSeq (fSetL 0 (fI (vOp2 gFdiv (vOp2 gIx (vVar 0) (vK (.int 0))) (vVar 1))) (fK (.int 0)))
    (fRet (fMv 2))))
    fNext)
    (fSeq (fSetL 0 (fI (vOp2 gMod (vOp2 gAdd (vOp2 gAdd (vOp2 gMul (vOp2 gIx (vVar 0) (vK (.int 0))) (vK (.int 48271))) (vOp2 gMul (vOp2 gMul (vK (.int 7919)) (vOp2 gIx (vVar 0) (vK (.int 1)))) (vOp2 gIx (vVar 0) (vK (.int 1))))) (vK (.int 17))) (vK (.int 2147483647)))) (fK (.int 0)))
    (fSeq (fSetL 0 (fI (vOp2 gAdd (vOp2 gIx (vVar 0) (vK (.int 1))) (vK (.int 1)))) (fK (.int 1)))
    (fRet (fI (vOp2 gMod (vOp2 gFdiv (vOp2 gMod (vOp2 gMul (vOp2 gIx (vVar 0) (vK (.int 0))) (vK (.int 69621))) (vK (.int 2147483629))) (vK (.int 5))) (vVar 1)))))))
def m__law_take : Fn := semOf (true :: List.replicate 1 false) 3 b__law_take
def l__law_house_1 : Ev → RS :=
  (fSeq (fAsg (fOp2 gAdd (fVar 5) (fCallIO 0 2 m__law_take (fCons (fI (vOp2 gSub (vOp2 gAdd (vOp2 gSub (vK (.int 27)) (vVar 2)) (vVar 6)) (vVar 5))) fNil))) (gN 5))
    (fSeq (fAsg (fOp2 gAdd (fK (.int 1)) (fCallIO 0 2 m__law_take (fCons (fI (vOp2 gSub (vOp2 gShl (vK (.int 1)) (vVar 1)) (vK (.int 1)))) fNil))) (gN 7))
    (fSeq (fIf (fTv (vOp2 gEq (vVar 3) (vK (.int 1))))
    (fAsg (fOp2 gBor (fOp2 gShl (fK (.int 1)) (fCallIO 0 2 m__law_take (fCons (fVar 1) fNil))) (fOp2 gShl (fK (.int 1)) (fCallIO 0 2 m__law_take (fCons (fVar 1) fNil)))) (gN 7))
    fNext)
    (fSeq (fAppend 4 (fCons (fTup (fCons (fI (vOp2 gIx (vK (.str "abcdefghijklmnopqrstuvwxyz")) (vVar 5))) (fCons (fLc (fItN rng1 (fCons (fVar 1) fNil)) (gN 8) (fTv (vOp2 gEq (vOp2 gBand (vOp2 gShr (vVar 7) (vVar 8)) (vK (.int 1))) (vK (.int 1)))) (fVar 8) [8]) fNil))) fNil))
    (fAsg (fI (vOp2 gAdd (vVar 5) (vK (.int 1)))) (gN 5))))))
def b__law_house : Ev → RS :=
  (fSeq (fAsg (fOp2 gAdd (fK (.int 2)) (fCallIO 0 2 m__law_take (fCons (fK (.int 3)) fNil))) (gN 1))
    (fSeq (fAsg (fOp2 gAdd (fK (.int 1)) (fCallIO 0 2 m__law_take (fCons (fK (.int 6)) fNil))) (gN 2))
    (fSeq (fAsg (fCallIO 0 2 m__law_take (fCons (fK (.int 2)) fNil)) (gN 3))
    (fSeq (fAsg (fLst fNil) (gN 4))
    (fSeq (fAsg (fK (.int 0)) (gN 5))
    (fSeq (fFor (fItN rng1 (fCons (fVar 2) fNil)) (gN 6) l__law_house_1)
    (fRet (fTup (fConsL 1 (fConsL 4 fNil))))))))))
def m__law_house : Fn := semOf (true :: List.replicate 0 false) 9 b__law_house
def l__law_row_1 : Ev → RS :=
  (fAsg (fOp2 gAdd (fVar 4) (fOp2 gIxI (fOp2 gIxI (fI (vOp2 gIx (vVar 1) (vK (.int 1)))) (fCallIO 0 2 m__law_take (fCons (fI (vOpN gLen (vCons (vOp2 gIx (vVar 1) (vK (.int 1))) vNil))) fNil))) (fK (.int 0)))) (gN 4))
def b__law_row : Ev → RS :=
  (fSeq (fAsg (fCallIO 0 2 m__law_take (fCons (fI (vOp2 gAdd (vVar 2) (vK (.int 1)))) fNil)) (gN 3))
    (fSeq (fIf (fTb (fOp2V gEq (fCallIO 0 2 m__law_take (fCons (fK (.int 8)) fNil)) (vK (.int 1))))
    (fAsg (fCallIO 0 2 m__law_take (fCons (fK (.int 41)) fNil)) (gN 3))
    fNext)
    (fSeq (fAsg (fK (.str "")) (gN 4))
    (fSeq (fFor (fItN rng1 (fCons (fVar 3) fNil)) (gN 5) l__law_row_1)
    (fRet (fMv 4))))))
def m__law_row : Fn := semOf (true :: List.replicate 2 false) 6 b__law_row
def b__law_drawn : Ev → RS :=
  (fSeq (fAsg (fCall 1 m__law_bag (fCons (fVar 0) fNil)) (gN 2))
    (fSeq (fAsg (fCallIO 2 1 m__law_house fNil) (gN 3))
    (fRet (fTup (fConsL 2 (fConsL 3 (fCons (fCallIO 2 3 m__law_row (fCons (fVar 3) (fCons (fVar 1) fNil))) fNil)))))))
def m__law_drawn : Fn := semOf (List.replicate 2 false) 4 b__law_drawn
def b_is_whole : Ev → RS :=
  (fRet (fAndD (fI (vOpN gIsi (vCons (vVar 0) (vCons (vK (.gv (.ty "int"))) vNil)))) (fNotD (fI (vOpN gIsi (vCons (vVar 0) (vCons (vK (.gv (.ty "bool"))) vNil)))))))
def m_is_whole : Fn := semOf (List.replicate 1 false) 1 b_is_whole
def l_is_rising_1 : Ev → RS :=
  (fSeq (fIf (fOr (fNot (fTb (fCall 1 m_is_whole (fCons (fVar 3) fNil)))) (fNot (fTb (fChain gLt gLt (fVar 2) (fVar 3) (fVar 1)))))
    (fRet (fK (.bl false)))
    fNext)
    (fAsg (fVar 3) (gN 2)))
def b_is_rising : Ev → RS :=
  (fSeq (fIf (fNot (fTv (vOpN gIsi (vCons (vVar 0) (vCons (vK (.gv (.ty "list"))) vNil)))))
    (fRet (fK (.bl false)))
    fNext)
    (fSeq (fAsg (fI (vOp1 gNeg (vK (.int 1)))) (gN 2))
    (fSeq (fFor (fIt itemsL (fVar 0)) (gN 3) l_is_rising_1)
    (fRet (fK (.bl true))))))
def m_is_rising : Fn := semOf (List.replicate 2 false) 4 b_is_rising
def b_is_sign : Ev → RS :=
  (fRet (fAndD (fI (vOpN gIsi (vCons (vVar 0) (vCons (vK (.gv (.ty "str"))) vNil)))) (fAndD (fI (vOp2 gEq (vOpN gLen (vCons (vVar 0) vNil)) (vK (.int 1)))) (fI (vOp2 gIn (vVar 0) (vK (.str "abcdefghijklmnopqrstuvwxyz")))))))
def m_is_sign : Fn := semOf (List.replicate 1 false) 1 b_is_sign
def b_is_entry : Ev → RS :=
  (fSeq (fIf (fOr (fNot (fTv (vOpN gIsi (vCons (vVar 0) (vCons (vK (.gv (.ty "tuple"))) vNil))))) (fOr (fTv (vOp2 gNe (vOpN gLen (vCons (vVar 0) vNil)) (vK (.int 2)))) (fNot (fTb (fCall 1 m_is_sign (fCons (fI (vOp2 gIx (vVar 0) (vK (.int 0)))) fNil))))))
    (fRet (fK (.bl false)))
    fNext)
    (fRet (fAndD (fCall 2 m_is_rising (fCons (fI (vOp2 gIx (vVar 0) (vK (.int 1)))) (fCons (fVar 1) fNil))) (fI (vOp2 gGt (vOpN gLen (vCons (vOp2 gIx (vVar 0) (vK (.int 1))) vNil)) (vK (.int 0)))))))
def m_is_entry : Fn := semOf (List.replicate 2 false) 2 b_is_entry
def l_is_house_1 : Ev → RS :=
  (fSeq (fIf (fOr (fNot (fTb (fCall 2 m_is_entry (fCons (fVar 4) (fCons (fVar 1) fNil))))) (fNot (fTv (vOp2 gLt (vVar 3) (vOp2 gIx (vVar 4) (vK (.int 0)))))))
    (fRet (fK (.bl false)))
    fNext)
    (fAsg (fI (vOp2 gIx (vVar 4) (vK (.int 0)))) (gN 3)))
def b_is_house : Ev → RS :=
  (fSeq (fIf (fOr (fNot (fTv (vOpN gIsi (vCons (vVar 0) (vCons (vK (.gv (.ty "tuple"))) vNil))))) (fTv (vOp2 gNe (vOpN gLen (vCons (vVar 0) vNil)) (vK (.int 2)))))
    (fRet (fK (.bl false)))
    fNext)
    (fSeq (fAsg (fVar 0) (gT 2 (gsC (gN 1) (gsC (gN 2) gsN))))
    (fSeq (fIf (fOr (fNot (fTb (fCall 1 m_is_whole (fCons (fVar 1) fNil)))) (fNot (fTb (fChain gLe gLe (fK (.int 2)) (fVar 1) (fK (.int 4))))))
    (fRet (fK (.bl false)))
    fNext)
    (fSeq (fIf (fOr (fNot (fTv (vOpN gIsi (vCons (vVar 2) (vCons (vK (.gv (.ty "list"))) vNil))))) (fNot (fTb (fChain gLe gLe (fK (.int 1)) (fI (vOpN gLen (vCons (vVar 2) vNil))) (fK (.int 6))))))
    (fRet (fK (.bl false)))
    fNext)
    (fSeq (fAsg (fK (.str "")) (gN 3))
    (fSeq (fFor (fIt itemsL (fVar 2)) (gN 4) l_is_house_1)
    (fRet (fK (.bl true)))))))))
def m_is_house : Fn := semOf (List.replicate 1 false) 5 b_is_house
def b_look_house : Ev → RS :=
  (fIf (fNot (fTb (fCall 1 m_is_house (fCons (fVar 0) fNil))))
    (fRaise "NoHouse")
    fNext)
def m_look_house : Fn := semOf (List.replicate 1 false) 1 b_look_house
def b_letters_of : Ev → RS :=
  (fRet (fLc (fIt itemsL (fI (vOp2 gIx (vVar 0) (vK (.int 1))))) (gT 2 (gsC (gN 1) (gsC (gN 2) gsN))) fYes (fVar 1) [1, 2]))
def m_letters_of : Fn := semOf (List.replicate 1 false) 3 b_letters_of
def b_is_row : Ev → RS :=
  (fSeq (fDrop (fCall 1 m_look_house (fCons (fVar 0) fNil)))
    (fRet (fAndD (fI (vOpN gIsi (vCons (vVar 1) (vCons (vK (.gv (.ty "str"))) vNil)))) (fOpN gAll (fCons (fLc (fIt itemsS (fVar 1)) (gN 2) fYes (fOp2L gIn 2 (fCall 1 m_letters_of (fCons (fVar 0) fNil))) [2]) fNil)))))
def m_is_row : Fn := semOf (List.replicate 2 false) 3 b_is_row
def b_look_row : Ev → RS :=
  (fIf (fNot (fTb (fCall 2 m_is_row (fCons (fVar 0) (fCons (fVar 1) fNil)))))
    (fRaise "NoRow")
    fNext)
def m_look_row : Fn := semOf (List.replicate 2 false) 2 b_look_row
def b_number_of : Ev → RS :=
  (fRet (fMeth isL gIndex (fCall 1 m_letters_of (fCons (fVar 0) fNil)) (fCons (fVar 1) fNil)))
def m_number_of : Fn := semOf (List.replicate 2 false) 2 b_number_of
def b_own_of : Ev → RS :=
  (fRet (fOpN gList (fCons (fOp2 gIxI (fOp2 gIxI (fI (vOp2 gIx (vVar 0) (vK (.int 1)))) (fCall 2 m_number_of (fCons (fVar 0) (fCons (fVar 1) fNil)))) (fK (.int 1))) fNil)))
def m_own_of : Fn := semOf (List.replicate 2 false) 2 b_own_of
def b__law_cell : Ev → RS :=
  (fSeq (fIf (fTv (vOp2 gLt (vVar 1) (vOpN gLen (vCons (vVar 0) vNil))))
    (fRet (fI (vOp2 gIx (vVar 0) (vVar 1))))
    fNext)
    (fRet (fK (.int 0))))
def m__law_cell : Fn := semOf (List.replicate 2 false) 2 b__law_cell
def Bag (n : Nat) (g : D) : Prop := ∃ a b : Int, g = .lst true [.int a, .int b] ∧ 0 ≤ b ∧ b ≤ n
theorem Bag.mono {n m : Nat} {g : D} (h : Bag n g) (l : n ≤ m) : Bag m g := by
  obtain ⟨a, b, e, h0, h1⟩ := h
  exact ⟨a, b, e, h0, by omega⟩
theorem take_spec {n : Nat} {g : D} {m : Int} (h : Bag n g) (hn : n < 2 ^ 60) (h0 : 0 < m) (h1 : m < 2 ^ 40) : ∃ (r : Nat) (g' : D), (r : Int) < m ∧ Bag (n + 1) g' ∧ m__law_take [g, .int m] = .rt (.int r) [some g', none] := by
  obtain ⟨a, b, rfl, hb0, hb1⟩ := h
  have nz : m ≠ 0 := by omega
  by_cases e : b = 0
  · subst e
    have cd : CDivX a m := ⟨nz, by omega⟩
    have hr0 : 0 ≤ Int.fmod a m := Int.fmod_nonneg_of_pos a h0
    have hr1 : Int.fmod a m < m := Int.fmod_lt_of_pos a h0
    refine ⟨(Int.fmod a m).toNat, .lst true [.int (Int.fdiv a m), .int 0], by omega, ⟨_, 0, rfl, by omega, by omega⟩, ?_⟩
    unfold m__law_take
    rw [semOf_ap]
    unfold b__law_take
    simp [nz, cd, setS, ixN, Int.toNat_of_nonneg hr0]
  · have c1 : CMul a 48271 := .inr ⟨by decide, by decide⟩
    have c2 : CMul 7919 b := .inl ⟨by decide, by decide⟩
    have c3 : CMul (7919 * b) b := .inr ⟨by omega, by omega⟩
    have c4 : ∀ x, CMul x 69621 := fun x => .inr ⟨by decide, by decide⟩
    have c5 : ∀ x, CDivX x 5 := fun x => ⟨by decide, by decide⟩
    let x := Int.fmod (a * 48271 + 7919 * b * b + 17) 2147483647
    let y := Int.fdiv (Int.fmod (x * 69621) 2147483629) 5
    have hr0 : 0 ≤ Int.fmod y m := Int.fmod_nonneg_of_pos y h0
    have hr1 : Int.fmod y m < m := Int.fmod_lt_of_pos y h0
    refine ⟨(Int.fmod y m).toNat, .lst true [.int x, .int (b + 1)], by omega, ⟨_, b + 1, rfl, by omega, by omega⟩, ?_⟩
    unfold m__law_take
    rw [semOf_ap]
    unfold b__law_take
    simp [nz, e, c1, c2, c3, c4, c5, setS, ixN, Int.toNat_of_nonneg hr0, x, y]
theorem bag_spec (c : Int) : ∃ g, Bag 1 g ∧ m__law_bag [.int c] = .rt g [none] := by
  have c1 : CPow 10 18 := ⟨by decide, by decide, by decide⟩
  by_cases h : (10 : Int) ^ 18 ≤ (if c < 0 then -c else c)
  · refine ⟨.lst true [.int (if c < 0 then -c else c), .int 0], ⟨_, 0, rfl, by omega, by omega⟩, ?_⟩
    unfold m__law_bag
    rw [semOf_ap]
    unfold b__law_bag
    have h' : (1000000000000000000 : Int) ≤ (if c < 0 then -c else c) := h
    simp [c1, sizeLine]
    rw [if_pos h']
    simp
  · refine ⟨.lst true [.int (Int.fmod c 2147483647), .int 1], ⟨_, 1, rfl, by omega, by omega⟩, ?_⟩
    unfold m__law_bag
    rw [semOf_ap]
    unfold b__law_bag
    have h' : ¬ (1000000000000000000 : Int) ≤ (if c < 0 then -c else c) := h
    simp [c1, sizeLine]
    rw [if_neg h']
    simp [sizeLine]
def sg (l : Nat) : Str := ⟨#[97 + l]⟩
def natD (x : Nat) : D := .int (x : Int)
def ownD (o : Bool) (ow : List Nat) : D := .lst o (ow.map natD)
def entD (o : Bool) (e : Nat × List Nat) : D := .tup [.str (sg e.1), ownD o e.2]
def houD (o : Bool) (h : Nat) (L : List (Nat × List Nat)) : D := .tup [.int h, .lst o (L.map (entD o))]
structure Own (h : Nat) (ow : List Nat) : Prop where
  ne : ow ≠ []
  rise : ow.Pairwise (· < ·)
  lt : ∀ x ∈ ow, x < h
structure House (h : Nat) (L : List (Nat × List Nat)) : Prop where
  h2 : 2 ≤ h
  h4 : h ≤ 4
  l1 : 1 ≤ L.length
  l6 : L.length ≤ 6
  rise : L.Pairwise fun e f => e.1 < f.1
  lt : ∀ e ∈ L, e.1 < 26
  own : ∀ e ∈ L, Own h e.2
@[simp] theorem frz_own {o ow} : frz (ownD o ow) = ownD false ow := by
  unfold ownD; rw [frz_lst, frzs_mapf (g := natD) fun _ _ => rfl]
@[simp] theorem frz_ent {o e} : frz (entD o e) = entD false e := by
  unfold entD; simp
@[simp] theorem frz_hou {o h L} : frz (houD o h L) = houD false h L := by
  unfold houD; simp [frzs_mapf (f := entD o) (g := entD false) fun _ _ => frz_ent]
@[simp] theorem imm_own {ow} : isImm (ownD false ow) = true := by
  unfold ownD; simp; exact imms_map fun _ _ => rfl
@[simp] theorem imm_ent {e} : isImm (entD false e) = true := by unfold entD; simp
@[simp] theorem imm_hou {h L} : isImm (houD false h L) = true := by
  unfold houD; simp; exact imms_map fun _ _ => imm_ent
@[simp] theorem imm_ownT {ow} : isImm (ownD true ow) = false := by unfold ownD; rfl
@[simp] theorem imm_houT {h L} : isImm (houD true h L) = false := by unfold houD; simp
def bitsL (h bits : Nat) : List Nat := (List.range h).filter fun j => bits.testBit j
theorem own_bits {h bits : Nat} (h0 : bits ≠ 0) (h1 : bits < 2 ^ h) : Own h (bitsL h bits) := by
  refine ⟨fun e => ?_, (List.pairwise_lt_range).filter _, fun x hx => by
    unfold bitsL at hx; rw [List.mem_filter, List.mem_range] at hx; exact hx.1⟩
  obtain ⟨i, hi⟩ := Nat.exists_testBit_of_ne_zero h0
  have hih : i < h := by
    refine Nat.lt_of_not_le fun hle => ?_
    have : bits < 2 ^ i := Nat.lt_of_lt_of_le h1 (Nat.pow_le_pow_right (by omega) hle)
    rw [Nat.testBit_lt_two_pow this] at hi
    cases hi
  have : i ∈ bitsL h bits := by unfold bitsL; rw [List.mem_filter, List.mem_range]; exact ⟨hih, hi⟩
  rw [e] at this
  exact absurd this (by simp)
theorem abc_eq : (Str.ofString "abcdefghijklmnopqrstuvwxyz").cps.toList = (List.range 26).map (97 + ·) := by decide +kernel
theorem abc_len : (Str.ofString "abcdefghijklmnopqrstuvwxyz").length ≤ sizeLine := by decide +kernel
theorem abc_ix {i : Nat} (h : i < 26) : gIx (.str (Str.ofString "abcdefghijklmnopqrstuvwxyz")) (.int (i : Int)) = some (.str (sg i)) := by
  show (if (Str.ofString "abcdefghijklmnopqrstuvwxyz").length ≤ sizeLine then (atI (Str.ofString "abcdefghijklmnopqrstuvwxyz").cps.toList (i : Int)).map fun c => D.str ⟨#[c]⟩ else none) = _
  rw [if_pos abc_len, at_nat, abc_eq, List.getElem?_map, List.getElem?_range h]
  rfl
theorem house_lc {g v2 v3 v4 v5 v6 : Option D} {h bits : Nat} (hh : h ≤ 4) :
    fLc (fItN rng1 (fCons (fVar 1) fNil)) (gN 8) (fTv (vOp2 gEq (vOp2 gBand (vOp2 gShr (vVar 7) (vVar 8)) (vK (.int 1))) (vK (.int 1)))) (fVar 8) [8] [g, some (.int (h : Int)), v2, v3, v4, v5, v6, some (.int (bits : Int)), none]
      = .ok (ownD true (bitsL h bits)) [g, some (.int (h : Int)), v2, v3, v4, v5, v6, some (.int (bits : Int)), none] := by
  unfold ownD bitsL
  refine lc_map (g := fun i => .int ((i : Nat) : Int)) (p := fun j => bits.testBit j) ?_ ?_ ?_ ?_
  · simp [rng1_n (n := h) (by omega)]
  · simp
  · rw [List.length_range]; unfold sizeLine; omega
  · intro j hj
    let ρ : Ev := [g, some (.int (h : Int)), v2, v3, v4, v5, v6, some (.int (bits : Int)), some (.int (j : Int))]
    refine ⟨ρ, rfl, ρ, ?_, fun _ => ⟨ρ, rfl, rfl⟩, fun _ => rfl⟩
    have e1 : (bits : Int) / 2 ^ j = ((bits >>> j : Nat) : Int) := by rw [Nat.shiftRight_eq_div_pow]; norm_cast
    have e2 : Builtin.bitAnd ((bits >>> j : Nat) : Int) 1 = (((bits >>> j) &&& 1 : Nat) : Int) := band_nn _ 1
    simp [ρ, e1, e2, -Nat.and_one_is_mod]
    rw [Bool.eq_iff_iff]
    simp only [decide_eq_true_eq]
    exact test_1 bits j
theorem bor_pow (a b : Nat) : Builtin.bitOr ((2 : Int) ^ a) (2 ^ b) = ((2 ^ a ||| 2 ^ b : Nat) : Int) := by
  have := bor_nn (2 ^ a) (2 ^ b)
  rw [← this]; congr 1 <;> norm_cast
theorem cpow1 {j : Nat} (h : j < 100) : CPow 1 (j : Int) := cpow_small 1 j (by omega) (by decide)
theorem pow_h {h : Nat} (h2 : 2 ≤ h) (h4 : h ≤ 4) : (4 : Int) ≤ 2 ^ h ∧ (2 : Int) ^ h ≤ 16 := by
  have : h = 2 ∨ h = 3 ∨ h = 4 := by omega
  rcases this with rfl | rfl | rfl <;> decide
/-- the state of _law_house's loop -/
structure HLoop (n0 h many few k : Nat) (ρ : Ev) : Prop where
  ex : ∃ (g : D) (at_ : Nat) (L : List (Nat × List Nat)) (v6 v7 : Option D), ρ = [some g, some (.int (h : Int)), some (.int (many : Int)), some (.int (few : Int)), some (.lst true (L.map (entD true))), some (.int (at_ : Int)), v6, v7, none] ∧
    Bag (n0 + 4 * k) g ∧ L.length = k ∧ at_ + many ≤ 26 + k ∧ (L.Pairwise fun e f => e.1 < f.1) ∧ ∀ e ∈ L, e.1 < at_ ∧ Own h e.2
def house_tail : Ev → RS := (fSeq (fAppend 4 (fCons (fTup (fCons (fI (vOp2 gIx (vK (.str "abcdefghijklmnopqrstuvwxyz")) (vVar 5))) (fCons (fLc (fItN rng1 (fCons (fVar 1) fNil)) (gN 8) (fTv (vOp2 gEq (vOp2 gBand (vOp2 gShr (vVar 7) (vVar 8)) (vK (.int 1))) (vK (.int 1)))) (fVar 8) [8]) fNil))) fNil))
    (fAsg (fI (vOp2 gAdd (vVar 5) (vK (.int 1)))) (gN 5)))
theorem house_body : l__law_house_1 = fSeq (fAsg (fOp2 gAdd (fVar 5) (fCallIO 0 2 m__law_take (fCons (fI (vOp2 gSub (vOp2 gAdd (vOp2 gSub (vK (.int 27)) (vVar 2)) (vVar 6)) (vVar 5))) fNil))) (gN 5))
    (fSeq (fAsg (fOp2 gAdd (fK (.int 1)) (fCallIO 0 2 m__law_take (fCons (fI (vOp2 gSub (vOp2 gShl (vK (.int 1)) (vVar 1)) (vK (.int 1)))) fNil))) (gN 7))
    (fSeq (fIf (fTv (vOp2 gEq (vVar 3) (vK (.int 1))))
    (fAsg (fOp2 gBor (fOp2 gShl (fK (.int 1)) (fCallIO 0 2 m__law_take (fCons (fVar 1) fNil))) (fOp2 gShl (fK (.int 1)) (fCallIO 0 2 m__law_take (fCons (fVar 1) fNil)))) (gN 7))
    fNext) house_tail)) := rfl
theorem house_turn {n0 h many few k : Nat} {ρ : Ev} (h2 : 2 ≤ h) (h4 : h ≤ 4) (hm : many ≤ 6) (hn0 : n0 < 2 ^ 59) (hk : k < many) (I : HLoop n0 h many few k ρ) : ∃ ρ', stepS (gN 6) l__law_house_1 (.int (k : Int)) ρ = .nx ρ' ∧ HLoop n0 h many few (k + 1) ρ' := by
  obtain ⟨g, at_, L, v6, v7, rfl, hb, hl, ha, hp, ho⟩ := I.ex
  obtain ⟨r1, g1, hr1, hb1, t1⟩ := take_spec (m := 27 - (many : Int) + (k : Int) - (at_ : Int)) hb (by omega) (by omega) (by omega)
  obtain ⟨p1, p2⟩ := pow_h h2 h4
  obtain ⟨r2, g2, hr2, hb2, t2⟩ := take_spec (m := (2 : Int) ^ h - 1) hb1 (by omega) (by omega) (by omega)
  have hat : at_ + r1 < 26 := by omega
  have cp := cpow1 (j := h) (by omega)
  obtain ⟨A, hA⟩ : ∃ A, A = at_ + r1 := ⟨_, rfl⟩
  have hsum : (at_ : Int) + (r1 : Int) = (A : Int) := by omega
  rw [← hA] at hat
  -- the part behind the bits
  have tail : ∀ (g3 : D) (bits : Nat), Bag (n0 + 4 * (k + 1)) g3 → bits ≠ 0 → bits < 2 ^ h →
      ∃ ρ', house_tail [some g3, some (.int (h : Int)), some (.int (many : Int)), some (.int (few : Int)), some (.lst true (L.map (entD true))), some (.int ((A : Nat) : Int)), some (.int (k : Int)), some (.int (bits : Int)), none] = .nx ρ' ∧ HLoop n0 h many few (k + 1) ρ' := by
    intro g3 bits hb3 b0 b1
    refine ⟨[some g3, some (.int (h : Int)), some (.int (many : Int)), some (.int (few : Int)), some (.lst true ((L ++ [(A, bitsL h bits)]).map (entD true))), some (.int ((A + 1 : Nat) : Int)), some (.int (k : Int)), some (.int (bits : Int)), none], ?_, ⟨g3, A + 1, L ++ [(A, bitsL h bits)], _, _, rfl, hb3, by simp [hl], by omega, ?_, ?_⟩⟩
    · unfold house_tail
      have hs : L.length < sizeLine := by unfold sizeLine; omega
      have hs2 : 2 ≤ sizeLine := by decide
      have i5 := abc_ix hat
      simp only [ap_seq, ap_append, ap_cons, ap_tup, ap_I, ap_v2, ap_vk, ap_vvar, List.getElem?_cons_succ, List.getElem?_cons_zero, varV_s, isLs_s, Option.bind_some, i5, immR_s, imm_str, if_true, bind_ok, house_lc h4, ap_nil, rsof_ok, one1_s, appS_s, List.length_map, hs, hs2, List.length_cons, List.length_nil, seq_nx, ap_asg, add_ii, imm_int, tgR_s, ap_gN, List.set_cons_succ, List.set_cons_zero, List.map_append, List.map_cons, List.map_nil]
      rfl
    · rw [List.pairwise_append]
      refine ⟨hp, by simp, fun e he f hf => ?_⟩
      rw [List.mem_singleton] at hf; subst hf
      exact Nat.lt_of_lt_of_le (ho e he).1 (by omega)
    · intro e he
      rcases List.mem_append.mp he with he | he
      · exact ⟨by have := (ho e he).1; omega, (ho e he).2⟩
      · rw [List.mem_singleton] at he; subst he
        exact ⟨by show A < _; omega, own_bits b0 b1⟩
  obtain ⟨B, hB⟩ : ∃ B, B = 1 + r2 := ⟨_, rfl⟩
  have e2 : (1 : Int) + (r2 : Int) = (B : Int) := by omega
  by_cases hf : few = 1
  · subst hf
    obtain ⟨r3, g3, hr3, hb3, t3⟩ := take_spec (m := (h : Int)) hb2 (by omega) (by omega) (by omega)
    obtain ⟨r4, g4, hr4, hb4, t4⟩ := take_spec (m := (h : Int)) hb3 (by omega) (by omega) (by omega)
    obtain ⟨C, hC⟩ : ∃ C, C = 2 ^ r3 ||| 2 ^ r4 := ⟨_, rfl⟩
    have hbor := bor_pow r3 r4
    rw [← hC] at hbor
    have hbits : 2 ^ r3 ||| 2 ^ r4 < 2 ^ h := Nat.or_lt_two_pow (Nat.pow_lt_pow_right (by omega) (by omega)) (Nat.pow_lt_pow_right (by omega) (by omega))
    have hnz : 2 ^ r3 ||| 2 ^ r4 ≠ 0 := by
      intro e
      have h1 : (2 ^ r3 ||| 2 ^ r4).testBit r3 = true := by rw [Nat.testBit_or, Nat.testBit_two_pow_self]; rfl
      rw [e] at h1; simp at h1
    obtain ⟨ρ', e, I'⟩ := tail g4 C (hb4.mono (by omega)) (hC ▸ hnz) (hC ▸ hbits)
    refine ⟨ρ', ?_, I'⟩
    rw [ap_step, ← e]
    rw [house_body]
    simp [-ap_append, -ap_lst, t1, t2, t3, t4, cp, cpow1 (j := r3) (by omega), cpow1 (j := r4) (by omega), hsum, e2, hbor]
  · have hbits : B < 2 ^ h := by
      have : ((2 : Nat) ^ h : Int) = 2 ^ h := by norm_cast
      have : ((2 ^ h : Nat) : Int) = 2 ^ h := by norm_cast
      omega
    obtain ⟨ρ', e, I'⟩ := tail g2 B (hb2.mono (by omega)) (by omega) hbits
    refine ⟨ρ', ?_, I'⟩
    have hf' : ¬ (few : Int) = 1 := by omega
    rw [ap_step, ← e]
    rw [house_body]
    simp [-ap_append, -ap_lst, t1, t2, cp, hsum, e2, hf']
section
variable {o : Bool} {h : Nat} {L : List (Nat × List Nat)} {e : Nat × List Nat} {ow : List Nat}
@[simp] theorem hou_ix0 : gIx (houD o h L) (.int 0) = some (.int (h : Int)) := by unfold houD; simp
@[simp] theorem hou_ix1 : gIx (houD o h L) (.int 1) = some (.lst o (L.map (entD o))) := by unfold houD; simp
@[simp] theorem ent_ix0 : gIx (entD o e) (.int 0) = some (.str (sg e.1)) := by unfold entD; simp
@[simp] theorem ent_ix1 : gIx (entD o e) (.int 1) = some (ownD o e.2) := by unfold entD; simp
@[simp] theorem frzs_ents : frzs (L.map (entD o)) = L.map (entD false) := frzs_mapf fun _ _ => frz_ent
@[simp] theorem imms_ents : isImms (L.map (entD false)) = true := imms_map fun _ _ => imm_ent
@[simp] theorem frzs_nats : frzs (ow.map natD) = ow.map natD := frzs_mapf fun _ _ => rfl
@[simp] theorem imms_nats : isImms (ow.map natD) = true := imms_map fun _ _ => rfl
end
@[simp] theorem fLst_nil {ρ : Ev} : fLst fNil ρ = .ok (.lst true []) ρ := rfl
theorem house_spec {n : Nat} {g : D} (hb : Bag n g) (hn : n < 2 ^ 58) : ∃ (g' : D) (h : Nat) (L : List (Nat × List Nat)), Bag (n + 30) g' ∧ House h L ∧ m__law_house [g] = .rt (houD true h L) [some g'] := by
  obtain ⟨r1, g1, hr1, hb1, t1⟩ := take_spec (m := 3) hb (by omega) (by omega) (by omega)
  obtain ⟨r2, g2, hr2, hb2, t2⟩ := take_spec (m := 6) hb1 (by omega) (by omega) (by omega)
  obtain ⟨r3, g3, hr3, hb3, t3⟩ := take_spec (m := 2) hb2 (by omega) (by omega) (by omega)
  obtain ⟨h, hh⟩ : ∃ h, h = 2 + r1 := ⟨_, rfl⟩
  obtain ⟨many, hm⟩ : ∃ m, m = 1 + r2 := ⟨_, rfl⟩
  have e1 : (2 : Int) + (r1 : Int) = (h : Int) := by omega
  have e2 : (1 : Int) + (r2 : Int) = (many : Int) := by omega
  obtain ⟨ρ', lp, I⟩ := loopR (step := stepS (gN 6) l__law_house_1) (n := many) (ρ := [some g3, some (.int (h : Int)), some (.int (many : Int)), some (.int (r3 : Int)), some (.lst true []), some (.int 0), none, none, none])
    (HLoop (n + 3) h many r3) ⟨g3, 0, [], _, _, rfl, hb3, rfl, by omega, .nil, fun e he => absurd he (by simp)⟩
    fun j ρ hj I => house_turn (by omega) (by omega) (by omega) (by omega) hj I
  obtain ⟨g', at_, L, v6, v7, rfl, hb', hl, ha, hp, ho⟩ := I.ex
  refine ⟨g', h, L, hb'.mono (by omega), ⟨by omega, by omega, by omega, by omega, hp, fun e he => by have := (ho e he).1; omega, fun e he => (ho e he).2⟩, ?_⟩
  unfold m__law_house
  rw [semOf_ap]
  unfold b__law_house
  have hs2 : 2 ≤ sizeLine := by decide
  simp [t1, t2, t3, e1, e2, rng1_n (n := many) (by omega), lp, hs2]
  cases L with
  | nil => simp at hl; omega
  | cons e L => simp [houD, entD, ownD]
def rowS (R : List Nat) : Str := ⟨(R.map (97 + ·)).toArray⟩
theorem rowS_snoc (R : List Nat) (l : Nat) : rowS R ++ sg l = rowS (R ++ [l]) := by
  show Str.mk _ = Str.mk _
  simp [rowS, sg]
@[simp] theorem rowS_len (R : List Nat) : (rowS R).length = R.length := by
  show (rowS R).cps.size = _
  simp [rowS]
@[simp] theorem sg_len (l : Nat) : (sg l).length = 1 := rfl
def RowOk (L : List (Nat × List Nat)) (R : List Nat) : Prop := ∀ r ∈ R, ∃ e ∈ L, e.1 = r
theorem rowS_nil : Str.ofString "" = rowS [] := by decide +kernel
theorem row_spec {n h : Nat} {L : List (Nat × List Nat)} {g : D} {most : Nat} (hb : Bag n g) (hn : n < 2 ^ 58) (H : House h L) (hmost : most < 2 ^ 20) :
    ∃ (g' : D) (R : List Nat), Bag (n + 2 ^ 21) g' ∧ RowOk L R ∧ R.length ≤ max most 40 ∧ m__law_row [g, houD false h L, .int (most : Int)] = .rt (.str (rowS R)) [some g', none, none] := by
  obtain ⟨r1, g1, hr1, hb1, t1⟩ := take_spec (m := (most : Int) + 1) hb (by omega) (by omega) (by omega)
  obtain ⟨r2, g2, hr2, hb2, t2⟩ := take_spec (m := 8) hb1 (by omega) (by omega) (by omega)
  obtain ⟨r3, g3, hr3, hb3, t3⟩ := take_spec (m := 41) hb2 (by omega) (by omega) (by omega)
  have l1 := H.l1
  have l6 := H.l6
  have main : ∀ (g0 : D) (size : Nat), Bag (n + 3) g0 → size ≤ max most 40 → ∃ ρ', loopS (stepS (gN 5) l__law_row_1) ((List.range size).map fun i => .int ((i : Nat) : Int)) [some g0, some (houD false h L), some (.int (most : Int)), some (.int (size : Int)), some (.str (rowS [])), none] = .nx ρ' ∧
      ∃ (g' : D) (R : List Nat) (v5 : Option D), ρ' = [some g', some (houD false h L), some (.int (most : Int)), some (.int (size : Int)), some (.str (rowS R)), v5] ∧ Bag (n + 3 + size) g' ∧ R.length = size ∧ RowOk L R := by
    intro g0 size hb0 hs
    refine loopR (fun k ρ => ∃ (g' : D) (R : List Nat) (v5 : Option D), ρ = [some g', some (houD false h L), some (.int (most : Int)), some (.int (size : Int)), some (.str (rowS R)), v5] ∧ Bag (n + 3 + k) g' ∧ R.length = k ∧ RowOk L R)
      ⟨g0, [], none, rfl, hb0, rfl, fun r hr => absurd hr (by simp)⟩ ?_
    rintro j ρ hj ⟨g', R, v5, rfl, hb', hl, hR⟩
    obtain ⟨r, g'', hr, hb'', t⟩ := take_spec (m := (L.length : Int)) hb' (by omega) (by omega) (by omega)
    have hrl : r < L.length := by omega
    have hsz : (rowS R).length + (sg (L[r]'hrl).1).length ≤ sizeLine := by rw [rowS_len, sg_len]; unfold sizeLine; omega
    refine ⟨[some g'', some (houD false h L), some (.int (most : Int)), some (.int (size : Int)), some (.str (rowS (R ++ [(L[r]'hrl).1]))), some (.int (j : Int))], ?_, g'', R ++ [(L[r]'hrl).1], _, rfl, hb''.mono (by omega), by simp [hl], ?_⟩
    · have i1 : gIxI (.lst false (L.map (entD false))) (.int (r : Int)) = some (entD false (L[r]'hrl)) := by
        refine ixI_of ?_ imm_ent
        rw [ix_l, at_nat, List.getElem?_map, List.getElem?_eq_getElem hrl]; rfl
      have i2 : gIxI (entD false (L[r]'hrl)) (.int 0) = some (.str (sg (L[r]'hrl).1)) := ixI_of ent_ix0 rfl
      rw [ap_step]
      unfold l__law_row_1
      simp [t, i1, i2, add_ss, -rowS_len, -sg_len]
      rw [if_pos hsz]
      simp [rowS_snoc]
    · intro x hx
      rcases List.mem_append.mp hx with hx | hx
      · exact hR x hx
      · rw [List.mem_singleton] at hx; subst hx
        exact ⟨_, List.getElem_mem hrl, rfl⟩
  by_cases e : r2 = 1
  · obtain ⟨ρ', lp, g', R, v5, rfl, hb', hl, hR⟩ := main g3 r3 hb3 (by omega)
    refine ⟨g', R, hb'.mono (by omega), hR, by omega, ?_⟩
    have e' : (r2 : Int) = 1 := by omega
    unfold m__law_row
    rw [semOf_ap]
    unfold b__law_row
    simp [t1, t2, t3, e', rng1_n (n := r3) (by omega), lp, rowS_nil]
  · obtain ⟨ρ', lp, g', R, v5, rfl, hb', hl, hR⟩ := main g2 r1 (hb2.mono (by omega)) (by omega)
    refine ⟨g', R, hb'.mono (by omega), hR, by omega, ?_⟩
    have e' : ¬ (r2 : Int) = 1 := by omega
    unfold m__law_row
    rw [semOf_ap]
    unfold b__law_row
    simp [t1, t2, e', rng1_n (n := r1) (by omega), lp, rowS_nil]
theorem drawn_spec (c : Int) {most : Nat} (hmost : most < 2 ^ 20) :
    ∃ (g' : D) (h : Nat) (L : List (Nat × List Nat)) (R : List Nat), Bag (2 ^ 22) g' ∧ House h L ∧ RowOk L R ∧ R.length ≤ max most 40 ∧ m__law_drawn [.int c, .int (most : Int)] = .rt (.tup [g', houD false h L, .str (rowS R)]) [none, none] := by
  obtain ⟨g0, hb0, t0⟩ := bag_spec c
  obtain ⟨g1, h, L, hb1, H, t1⟩ := house_spec hb0 (by omega)
  obtain ⟨g2, R, hb2, hR, hl, t2⟩ := row_spec hb1 (by omega) H hmost
  refine ⟨g2, h, L, R, hb2.mono (by omega), H, hR, hl, ?_⟩
  have i0 : isImm g0 = false := by obtain ⟨a, b, rfl, _⟩ := hb0; rfl
  have i2 : isImm g2 = false := by obtain ⟨a, b, rfl, _⟩ := hb2; rfl
  have hs3 : 3 ≤ sizeLine := by decide
  unfold m__law_drawn
  rw [semOf_ap]
  unfold b__law_drawn
  simp [t0, t1, t2, i2, hs3]
theorem whole_spec (i : Int) : m_is_whole [.int i] = .rt (.bl true) [none] := by
  unfold m_is_whole; rw [semOf_ap]; unfold b_is_whole; simp
theorem rising_spec {h : Nat} {ow : List Nat} (hr : ow.Pairwise (· < ·)) (hl : ∀ x ∈ ow, x < h) : m_is_rising [ownD false ow, .int (h : Int)] = .rt (.bl true) [none, none] := by
  obtain ⟨ρ', lp, I⟩ := loopL (step := stepS (gN 3) l_is_rising_1) (f := natD) (fun xs ρ => ∃ (a : Int) (v3 : Option D), ρ = [some (ownD false ow), some (.int (h : Int)), some (.int a), v3] ∧ xs.Pairwise (· < ·) ∧ ∀ x ∈ xs, a < (x : Int) ∧ x < h)
    ow [some (ownD false ow), some (.int (h : Int)), some (.int (-1)), none] ⟨-1, none, rfl, hr, fun x hx => ⟨by omega, hl x hx⟩⟩ (by
      rintro x xs ρ ⟨a, v3, rfl, hp, hx⟩
      obtain ⟨h1, h2⟩ := hx x List.mem_cons_self
      rw [List.pairwise_cons] at hp
      refine ⟨[some (ownD false ow), some (.int (h : Int)), some (.int (x : Int)), some (.int (x : Int))], ?_, x, _, rfl, hp.2, fun y hy => ⟨by have := hp.1 y hy; omega, (hx y (List.mem_cons_of_mem _ hy)).2⟩⟩
      rw [ap_step]
      unfold l_is_rising_1 natD
      have h2' : (x : Int) < (h : Int) := by omega
      simp [whole_spec, h1, h2])
  obtain ⟨a, v3, rfl, _, _⟩ := I
  unfold m_is_rising; rw [semOf_ap]; unfold b_is_rising
  unfold ownD at lp ⊢
  simp [lp]
theorem abc_in {l : Nat} (h : l < 26) : gIn (.str (sg l)) (.str (Str.ofString "abcdefghijklmnopqrstuvwxyz")) = some (.bl true) := by
  show (some (decide ((97 + l) ∈ (Str.ofString "abcdefghijklmnopqrstuvwxyz").cps.toList))).map D.bl = _
  rw [abc_eq, decide_eq_true]
  · rfl
  · rw [List.mem_map]; exact ⟨l, List.mem_range.mpr h, rfl⟩
theorem sign_spec {l : Nat} (h : l < 26) : m_is_sign [.str (sg l)] = .rt (.bl true) [none] := by
  have hs : 1 ≤ sizeLine := by decide
  unfold m_is_sign; rw [semOf_ap]; unfold b_is_sign; simp [abc_in h, hs]
theorem entry_spec {h : Nat} {e : Nat × List Nat} (hl : e.1 < 26) (ho : Own h e.2) : m_is_entry [entD false e, .int (h : Int)] = .rt (.bl true) [none, none] := by
  have hr := rising_spec ho.rise ho.lt
  have hlen : (0 : Int) < (e.2.length : Int) := by
    have := List.length_pos_iff.mpr ho.ne; omega
  have i0 := imm_own (ow := e.2)
  unfold ownD at hr i0
  unfold m_is_entry; rw [semOf_ap]; unfold b_is_entry entD ownD
  have hg : gGt (.int (e.2.length : Int)) (.int 0) = some (.bl true) := by rw [gt_ii, decide_eq_true hlen]
  simp [sign_spec hl, hr, hlen, List.length_pos_iff, ho.ne]
theorem sg_lt {a b : Nat} (h : a < b) : gLt (.str (sg a)) (.str (sg b)) = some (.bl true) := by
  rw [lt_ss, decide_eq_true]
  show [97 + a] < [97 + b]
  exact List.cons_lt_cons_iff.mpr (.inl (by omega))
theorem nil_lt {a : Nat} : gLt (.str (Str.ofString "")) (.str (sg a)) = some (.bl true) := by
  rw [lt_ss, decide_eq_true]
  rw [show (Str.ofString "").cps.toList = [] from by decide +kernel]
  exact List.Lex.nil
theorem ishouse_spec {h : Nat} {L : List (Nat × List Nat)} (H : House h L) : m_is_house [houD false h L] = .rt (.bl true) [none] := by
  obtain ⟨ρ', lp, I⟩ := loopL (step := stepS (gN 4) l_is_house_1) (f := entD false) (fun xs ρ => ∃ (a : Str) (v4 : Option D), ρ = [some (houD false h L), some (.int (h : Int)), some (.lst false (L.map (entD false))), some (.str a), v4] ∧ (xs.Pairwise fun e f => e.1 < f.1) ∧ ∀ e ∈ xs, gLt (.str a) (.str (sg e.1)) = some (.bl true) ∧ e.1 < 26 ∧ Own h e.2)
    L [some (houD false h L), some (.int (h : Int)), some (.lst false (L.map (entD false))), some (.str (Str.ofString "")), none] ⟨_, none, rfl, H.rise, fun e he => ⟨nil_lt, H.lt e he, H.own e he⟩⟩ (by
      rintro e xs ρ ⟨a, v4, rfl, hp, hx⟩
      obtain ⟨h1, h2, h3⟩ := hx e List.mem_cons_self
      rw [List.pairwise_cons] at hp
      refine ⟨[some (houD false h L), some (.int (h : Int)), some (.lst false (L.map (entD false))), some (.str (sg e.1)), some (entD false e)], ?_, _, _, rfl, hp.2, fun f hf => ⟨sg_lt (hp.1 f hf), (hx f (List.mem_cons_of_mem _ hf)).2⟩⟩
      rw [ap_step]
      unfold l_is_house_1
      simp [entry_spec h2 h3, h1, -lt_ss])
  obtain ⟨a, v3, rfl, _, _⟩ := I
  unfold m_is_house; rw [semOf_ap]; unfold b_is_house
  have h2 := H.h2; have h4 := H.h4; have l1 := H.l1; have l6 := H.l6
  have c1 : (2 : Int) ≤ (h : Int) := by omega
  have c2 : (h : Int) ≤ 4 := by omega
  have c3 : (1 : Int) ≤ (L.length : Int) := by omega
  have c4 : (L.length : Int) ≤ 6 := by omega
  unfold houD at lp ⊢
  simp [whole_spec, c1, c2, c3, c4, lp]
theorem look_spec {h : Nat} {L : List (Nat × List Nat)} (H : House h L) : m_look_house [houD false h L] = .rt .non [none] := by
  unfold m_look_house; rw [semOf_ap]; unfold b_look_house; simp [ishouse_spec H]
def sgD (l : Nat) : D := .str (sg l)
@[simp] theorem frz_sgD {l} : frz (sgD l) = sgD l := rfl
@[simp] theorem imm_sgD {l} : isImm (sgD l) = true := rfl
theorem sg_inj {a b : Nat} : sg a = sg b ↔ a = b := by
  constructor
  · intro h
    have : (#[97 + a] : Array Nat) = #[97 + b] := congrArg Str.cps h
    simp at this; exact this
  · intro h; rw [h]
theorem eqd_sg : EqD sgD := fun x y => by
  simp only [sgD, toPy, PyData.eqv]
  by_cases h : x = y
  · simp [h]
  · have : ¬ sg x = sg y := fun e => h (sg_inj.mp e)
    simp [h, this]
theorem sh_sg {l n : Nat} (h : l < 26) : Sh n (sgD l) := sh_str fun c hc => by
  simp [sg] at hc; omega
theorem letters_spec {h : Nat} {L : List (Nat × List Nat)} (hl : L.length ≤ 6) : m_letters_of [houD false h L] = .rt (.lst true (L.map fun e => sgD e.1)) [none] := by
  have lc : fLc (fIt itemsL (fI (vOp2 gIx (vVar 0) (vK (.int 1))))) (gT 2 (gsC (gN 1) (gsC (gN 2) gsN))) fYes (fVar 1) [1, 2] [some (houD false h L), none, none] = .ok (.lst true (L.map fun e => sgD e.1)) [some (houD false h L), none, none] := by
    refine lc_all (g := entD false) (by simp) (by simp) (by unfold sizeLine; omega) fun e _ => ?_
    refine ⟨[some (houD false h L), some (sgD e.1), some (ownD false e.2)], ?_, [some (houD false h L), some (sgD e.1), some (ownD false e.2)], ?_, ?_⟩
    · simp [entD]; rfl
    · simp
    · simp
  unfold m_letters_of; rw [semOf_ap]; unfold b_letters_of; simp [lc]
theorem fst_nodup {L : List (Nat × List Nat)} (h : L.Pairwise fun e f => e.1 < f.1) : (L.map (·.1)).Nodup := by
  unfold List.Nodup; rw [List.pairwise_map]; exact h.imp fun hab => Nat.ne_of_lt hab
theorem number_spec {h i : Nat} {L : List (Nat × List Nat)} {e : Nat × List Nat} (H : House h L) (hi : L[i]? = some e) : m_number_of [houD false h L, sgD e.1] = .rt (.int (i : Int)) [none, none] := by
  have ix : gIndex (.lst true (L.map fun e => sgD e.1)) [sgD e.1] = some (.int (i : Int)) := by
    have := idx_map (f := sgD) (xs := L.map (·.1)) (z := e.1) (i := i) (o := true) eqd_sg (fun x hx => by obtain ⟨f, hf, rfl⟩ := List.mem_map.mp hx; exact sh_sg (H.lt f hf)) (by rw [List.getElem?_map, hi]; rfl) (fst_nodup H.rise)
    rwa [List.map_map] at this
  unfold m_number_of; rw [semOf_ap]; unfold b_number_of; simp [letters_spec H.l6, isL, ix]
theorem own_spec {h : Nat} {L : List (Nat × List Nat)} {e : Nat × List Nat} (H : House h L) (he : e ∈ L) : m_own_of [houD false h L, sgD e.1] = .rt (ownD true e.2) [none, none] := by
  obtain ⟨i, hi⟩ := List.getElem?_of_mem he
  have i1 : gIxI (.lst false (L.map (entD false))) (.int (i : Int)) = some (entD false e) := ixI_of (by rw [ix_l, at_nat, List.getElem?_map, hi]; rfl) imm_ent
  have i2 : gIxI (entD false e) (.int 1) = some (ownD false e.2) := ixI_of ent_ix1 imm_own
  have i3 : gList [ownD false e.2] = some (ownD true e.2) := by
    show (if isImms (e.2.map natD) = true then _ else _) = _
    rw [if_pos imms_nats]; rfl
  unfold m_own_of; rw [semOf_ap]; unfold b_own_of; simp [number_spec H hi, i1, i2, i3]
theorem strD_row (R : List Nat) : strD (rowS R) = R.map sgD := by
  unfold strD rowS; simp [sgD, sg]
theorem isrow_spec {h : Nat} {L : List (Nat × List Nat)} {R : List Nat} (H : House h L) (hR : RowOk L R) (hl : R.length ≤ sizeLine) : m_is_row [houD false h L, .str (rowS R)] = .rt (.bl true) [none, none] := by
  have lc : fLc (fIt itemsS (fVar 1)) (gN 2) fYes (fOp2L gIn 2 (fCall 1 m_letters_of (fCons (fVar 0) fNil))) [2] [some (houD false h L), some (.str (rowS R)), none] = .ok (.lst true (R.map fun r => .bl (decide (r ∈ L.map (·.1))))) [some (houD false h L), some (.str (rowS R)), none] := by
    refine lc_all (g := sgD) (by simp [strD_row]) (by simp) hl fun r hr => ?_
    obtain ⟨e, he, rfl⟩ := hR r hr
    have hin : gIn (sgD e.1) (.lst true (L.map fun e => sgD e.1)) = some (.bl (decide (e.1 ∈ L.map (·.1)))) := by
      have := in_map (f := sgD) (o := true) (xs := L.map (·.1)) (z := e.1) eqd_sg (sh_sg (H.lt e he)) fun x hx => by obtain ⟨f, hf, rfl⟩ := List.mem_map.mp hx; exact sh_sg (H.lt f hf)
      rwa [List.map_map] at this
    refine ⟨[some (houD false h L), some (.str (rowS R)), some (sgD e.1)], by simp, [some (houD false h L), some (.str (rowS R)), some (sgD e.1)], ?_, by simp⟩
    simp [letters_spec H.l6, hin, -List.mem_map]
  have hall : R.all (fun r => decide (r ∈ L.map (·.1))) = true := by
    rw [List.all_eq_true]; intro r hr; obtain ⟨e, he, rfl⟩ := hR r hr
    exact decide_eq_true (List.mem_map.mpr ⟨e, he, rfl⟩)
  have hga := all_map_bl (o := true) (fun r => decide (r ∈ L.map (·.1))) R
  rw [hall] at hga
  unfold m_is_row; rw [semOf_ap]; unfold b_is_row
  simp only [List.length_cons, List.length_nil]
  simp [look_spec H, lc, hga, -all_l, -List.mem_map]
theorem lookrow_spec {h : Nat} {L : List (Nat × List Nat)} {R : List Nat} (H : House h L) (hR : RowOk L R) (hl : R.length ≤ sizeLine) : m_look_row [houD false h L, .str (rowS R)] = .rt .non [none, none] := by
  unfold m_look_row; rw [semOf_ap]; unfold b_look_row; simp [isrow_spec H hR hl]
def cellM (ns : List Int) (k : Nat) : Int := (ns[k]?).getD 0
theorem cell_spec (ns : List Int) (k : Nat) : m__law_cell [.rol (ns.map D.int), .int (k : Int)] = .rt (.int (cellM ns k)) [none, none] := by
  unfold m__law_cell; rw [semOf_ap]; unfold b__law_cell cellM
  by_cases h : k < ns.length
  · simp [h, at_nat]
  · simp [h]
theorem turns_spec (ns : List Int) : ∃ t : Nat, 1 ≤ t ∧ t ≤ 3 ∧ (vOpN gMax2 (vCons (vK (.int 1)) (vCons (vOpN gMin2 (vCons (vK (.int 3)) (vCons (vOpN gLen (vCons (vVar 0) vNil)) vNil))) vNil))) [some (.rol (ns.map D.int))] = some (.int (t : Int)) := by
  refine ⟨(max 1 (min 3 ns.length)), by omega, by omega, ?_⟩
  simp
  repeat' split
  all_goals omega
end M
namespace M
open PySem PySem.Spec PyProof.Rows L2 Hap
def b__law_hang : Ev → RS :=
  (fSeq (fAsg (fOpN gDict (fCons (fI (vOp2 gIx (vVar 0) (vK (.int 1)))) fNil)) (gN 3))
    (fRet (fOpN gAny (fCons (fLc (fIt itemsL (fI (vOp2 gIx (vVar 3) (vVar 1)))) (gN 4) fYes (fI (vOp2 gIn (vVar 4) (vOp2 gIx (vVar 3) (vVar 2)))) [4]) fNil))))
def m__law_hang : Fn := semOf (List.replicate 3 false) 5 b__law_hang
def l__law_below_1 : Ev → RS :=
  (fIf (fTb (fOpN gAny (fCons (fLc (fIt itemsL (fVar 4)) (gN 6) fYes (fCall 3 m__law_hang (fCons (fVar 0) (fCons (fI (vOp2 gIx (vVar 1) (vVar 5))) (fCons (fI (vOp2 gIx (vVar 1) (vVar 6))) fNil)))) [6]) fNil)))
    (fAsg (fOp2V gAdd (fLst (fCons (fVar 5) fNil)) (vVar 4)) (gN 4))
    fNext)
def l__law_below_2 : Ev → RS :=
  (fSeq (fAsg (fLst (fCons (fVar 3) fNil)) (gN 4))
    (fSeq (fFor (fItN rngD (fCons (fI (vOp2 gSub (vVar 3) (vK (.int 1)))) (fCons (fI (vOp1 gNeg (vK (.int 1)))) (fCons (fI (vOp1 gNeg (vK (.int 1)))) fNil)))) (gN 5) l__law_below_1)
    (fAppend 2 (fConsL 4 fNil))))
def b__law_below : Ev → RS :=
  (fSeq (fAsg (fLst fNil) (gN 2))
    (fSeq (fFor (fItN rng1 (fCons (fI (vOpN gLen (vCons (vVar 1) vNil))) fNil)) (gN 3) l__law_below_2)
    (fRet (fMv 2))))
def m__law_below : Fn := semOf (List.replicate 2 false) 7 b__law_below
def b_look_both : Ev → RS :=
  (fSeq (fDrop (fCall 1 m_look_house (fCons (fVar 0) fNil)))
    (fDrop (fCall 2 m_look_row (fCons (fVar 0) (fCons (fVar 1) fNil)))))
def m_look_both : Fn := semOf (List.replicate 2 false) 2 b_look_both
def l_bits_below_1 : Ev → RS :=
  (fSetL 3 (fVar 6) (fVar 7))
def l_bits_below_2 : Ev → RS :=
  (fAug 6 gBor (fI (vOp2 gIx (vVar 3) (vVar 7))))
def l_bits_below_3 : Ev → RS :=
  (fSeq (fAsg (fI (vOp2 gShl (vK (.int 1)) (vVar 4))) (gN 6))
    (fSeq (fFor (fIt itemsL (fCall 2 m_own_of (fCons (fVar 0) (fCons (fVar 5) fNil)))) (gN 7) l_bits_below_2)
    (fSeq (fFor (fIt itemsL (fCall 2 m_own_of (fCons (fVar 0) (fCons (fVar 5) fNil)))) (gN 7) l_bits_below_1)
    (fAppend 2 (fConsL 6 fNil)))))
def b_bits_below : Ev → RS :=
  (fSeq (fAsg (fLst fNil) (gN 2))
    (fSeq (fAsg (fLc (fItN rng1 (fCons (fI (vOp2 gIx (vVar 0) (vK (.int 0)))) fNil)) (gN 7) fYes (fK (.int 0)) [7]) (gN 3))
    (fSeq (fFor (fItN enumS (fCons (fVar 1) fNil)) (gT 2 (gsC (gN 4) (gsC (gN 5) gsN))) l_bits_below_3)
    (fRet (fMv 2)))))
def m_bits_below : Fn := semOf (List.replicate 2 false) 8 b_bits_below
def ow (L : List (Nat × List Nat)) (l : Nat) : List Nat := ((L.find? fun e => e.1 == l).map (·.2)).getD []
theorem ow_mem {L : List (Nat × List Nat)} (h : L.Pairwise fun e f => e.1 < f.1) {e : Nat × List Nat} (he : e ∈ L) : ow L e.1 = e.2 := by
  unfold ow
  induction L with
  | nil => cases he
  | cons a L ih =>
    rw [List.pairwise_cons] at h
    rw [List.find?_cons]
    rcases List.mem_cons.mp he with rfl | he
    · simp
    · have : ¬ a.1 = e.1 := Nat.ne_of_lt (h.1 e he)
      rw [show (a.1 == e.1) = false by simpa using this]
      exact ih h.2 he
/-- they share a hand -/
def Hang (L : List (Nat × List Nat)) (a b : Nat) : Prop := ∃ x, x ∈ ow L a ∧ x ∈ ow L b
inductive Reach (H : Nat → Nat → Prop) : Nat → Nat → Prop
  | refl (i) : Reach H i i
  | tail {i p k} : Reach H i p → p < k → H p k → Reach H i k
theorem Reach.le {H : Nat → Nat → Prop} {i k : Nat} (h : Reach H i k) : i ≤ k := by
  induction h with
  | refl => exact Nat.le_refl _
  | tail _ l _ ih => omega
theorem Reach.head {H : Nat → Nat → Prop} {i p k : Nat} (l : i < p) (h : H i p) (r : Reach H p k) : Reach H i k := by
  induction r with
  | refl => exact .tail (.refl i) l h
  | tail _ l2 h2 ih => exact .tail ih l2 h2
theorem Reach.trans {H : Nat → Nat → Prop} {i p k : Nat} (h : Reach H i p) (r : Reach H p k) : Reach H i k := by
  induction r with
  | refl => exact h
  | tail _ l h2 ih => exact .tail ih l h2
theorem Reach.tail_iff {H : Nat → Nat → Prop} {i k : Nat} : Reach H i k ↔ i = k ∨ ∃ p, p < k ∧ H p k ∧ Reach H i p := by
  constructor
  · intro h
    cases h with
    | refl => exact .inl rfl
    | tail r l h => exact .inr ⟨_, l, h, r⟩
  · rintro (rfl | ⟨p, l, h, r⟩)
    · exact .refl _
    · exact .tail r l h
theorem Reach.head_iff {H : Nat → Nat → Prop} {i k : Nat} : Reach H i k ↔ i = k ∨ ∃ p, i < p ∧ H i p ∧ Reach H p k := by
  constructor
  · intro h
    induction h with
    | refl => exact .inl rfl
    | tail r l h ih =>
      rename_i p k
      rcases ih with rfl | ⟨q, l2, h2, r2⟩
      · exact .inr ⟨k, l, h, .refl k⟩
      · exact .inr ⟨q, l2, h2, .tail r2 l h⟩
  · rintro (rfl | ⟨p, l, h, r⟩)
    · exact .refl _
    · exact .head l h r
/-- the row's letter at a place -/
def lt (R : List Nat) (i : Nat) : Nat := (R[i]?).getD 0
/-- the place i lies below the place j -/
def Below (L : List (Nat × List Nat)) (R : List Nat) (i j : Nat) : Prop := Reach (fun p k => Hang L (lt R p) (lt R k)) i j
@[simp] theorem frz_natD {x} : frz (natD x) = natD x := rfl
@[simp] theorem imm_natD {x} : isImm (natD x) = true := rfl
def lastD (h : Nat) (last : Nat → Nat) : D := .lst true ((List.range h).map fun x => natD (last x))
theorem last_ix {h x : Nat} {last : Nat → Nat} (hx : x < h) : gIx (lastD h last) (.int (x : Int)) = some (natD (last x)) := by
  unfold lastD; rw [ix_l, at_nat, List.getElem?_map, List.getElem?_range hx]; rfl
theorem last_set {h x b : Nat} {last : Nat → Nat} : ((List.range h).map fun x => natD (last x)).set x (natD b) = (List.range h).map fun y => natD (if y = x then b else last y) := by
  apply List.ext_getElem?
  intro i
  rw [List.getElem?_set, List.getElem?_map]
  by_cases e : x = i
  · subst e
    by_cases hx : x < h
    · simp [hx]
    · rw [if_pos rfl, if_neg (by simp; omega), List.getElem?_map, List.getElem?_eq_none (by simp; omega)]; rfl
  · rw [if_neg e, List.getElem?_map]
    by_cases hi : i < h
    · simp [List.getElem?_range hi, show ¬ i = x from fun z => e z.symm]
    · rw [List.getElem?_eq_none (by simp; omega)]; rfl
section
variable {h : Nat} {L : List (Nat × List Nat)} {R : List Nat}
theorem lt_ok (hR : RowOk L R) {j : Nat} (hj : j < R.length) : ∃ e ∈ L, e.1 = lt R j := by
  have := hR (R[j]'hj) (List.getElem_mem hj)
  unfold lt; rw [List.getElem?_eq_getElem hj]; exact this
theorem own_lt (H : House h L) (hR : RowOk L R) {j : Nat} (hj : j < R.length) : m_own_of [houD false h L, sgD (lt R j)] = .rt (ownD true (ow L (lt R j))) [none, none] ∧ ∀ x ∈ ow L (lt R j), x < h := by
  obtain ⟨e, he, h1⟩ := lt_ok hR hj
  rw [← h1, ow_mem H.rise he]
  exact ⟨own_spec H he, (H.own e he).lt⟩
/-- what the loop over a place's own hands gathers -/
theorem bits_gather {v1 v2 v4 v5 v0 : Option D} {last : Nat → Nat} (ows : List Nat) (hl : ∀ x ∈ ows, x < h) (b : Nat) (v7 : Option D) :
    ∃ ρ', loopS (stepS (gN 7) l_bits_below_2) (ows.map natD) [v0, v1, v2, some (lastD h last), v4, v5, some (natD b), v7] = .nx ρ' ∧
      ∃ v7', ρ' = [v0, v1, v2, some (lastD h last), v4, v5, some (natD (ows.foldl (fun b x => b ||| last x) b)), v7'] := by
  obtain ⟨ρ', lp, c, v7', e, hf, _⟩ := loopL (step := stepS (gN 7) l_bits_below_2) (f := natD) (fun xs ρ => ∃ (c : Nat) (v7 : Option D), ρ = [v0, v1, v2, some (lastD h last), v4, v5, some (natD c), v7] ∧ xs.foldl (fun b x => b ||| last x) c = ows.foldl (fun b x => b ||| last x) b ∧ ∀ x ∈ xs, x < h)
    ows _ ⟨b, v7, rfl, rfl, hl⟩ (by
      rintro x xs ρ ⟨c, v7, rfl, hf, hx⟩
      refine ⟨[v0, v1, v2, some (lastD h last), v4, v5, some (natD (c ||| last x)), some (natD x)], ?_, c ||| last x, _, rfl, hf, fun y hy => hx y (List.mem_cons_of_mem _ hy)⟩
      rw [ap_step]
      unfold l_bits_below_2
      simp [natD, last_ix (hx x List.mem_cons_self), bor_nn])
  refine ⟨ρ', lp, v7', ?_⟩
  rw [e]
  simp only [List.foldl_nil] at hf
  rw [hf]
theorem bits_spread {v1 v2 v4 v5 v0 : Option D} {last : Nat → Nat} (ows : List Nat) (hl : ∀ x ∈ ows, x < h) (b : Nat) (v7 : Option D) :
    ∃ ρ', loopS (stepS (gN 7) l_bits_below_1) (ows.map natD) [v0, v1, v2, some (lastD h last), v4, v5, some (natD b), v7] = .nx ρ' ∧
      ∃ v7', ρ' = [v0, v1, v2, some (lastD h fun x => if x ∈ ows then b else last x), v4, v5, some (natD b), v7'] := by
  obtain ⟨ρ', lp, las, v7', e, hf, _⟩ := loopL (step := stepS (gN 7) l_bits_below_1) (f := natD) (fun xs ρ => ∃ (las : Nat → Nat) (v7 : Option D), ρ = [v0, v1, v2, some (lastD h las), v4, v5, some (natD b), v7] ∧ (∀ x, (if x ∈ xs then b else las x) = if x ∈ ows then b else last x) ∧ ∀ x ∈ xs, x < h)
    ows _ ⟨last, v7, rfl, fun x => rfl, hl⟩ (by
      rintro x xs ρ ⟨las, v7, rfl, hf, hx⟩
      refine ⟨[v0, v1, v2, some (lastD h fun y => if y = x then b else las y), v4, v5, some (natD b), some (natD x)], ?_, _, _, rfl, fun y => ?_, fun y hy => hx y (List.mem_cons_of_mem _ hy)⟩
      · have hs := setS_n (d := natD b) (i := 3) (ρ := [v0, v1, v2, some (lastD h las), v4, v5, some (natD b), some (natD x)]) (j := x) (xs := (List.range h).map fun x => natD (las x)) (by simpa using hx x List.mem_cons_self)
        rw [last_set] at hs
        rw [ap_step]
        unfold l_bits_below_1
        unfold lastD
        simp
        exact hs
      · rw [← hf y]
        by_cases e : y = x
        · subst e; simp
        · simp [e])
  refine ⟨ρ', lp, v7', ?_⟩
  rw [e]
  have : las = fun x => if x ∈ ows then b else last x := by
    funext x; rw [← hf x]; simp
  rw [this]
end
theorem fold_bit (last : Nat → Nat) (i : Nat) : ∀ (ows : List Nat) (b : Nat), (ows.foldl (fun b x => b ||| last x) b).testBit i = (b.testBit i || ows.any fun x => (last x).testBit i)
  | [], b => by simp
  | x :: xs, b => by rw [List.foldl_cons, fold_bit last i xs, Nat.testBit_or, List.any_cons, Bool.or_assoc]
section
variable {h : Nat} {L : List (Nat × List Nat)} {R : List Nat}
/-- what stands behind k places -/
structure BI (L : List (Nat × List Nat)) (R : List Nat) (k : Nat) (Bs : List Nat) (last : Nat → Nat) : Prop where
  len : Bs.length = k
  bs : ∀ (j b : Nat), Bs[j]? = some b → ∀ i, b.testBit i = true ↔ Below L R i j
  la : ∀ x i, (last x).testBit i = true ↔ ∃ p, p < k ∧ x ∈ ow L (lt R p) ∧ Below L R i p
theorem BI.bits {k : Nat} {Bs : List Nat} {last : Nat → Nat} (I : BI L R k Bs last) (i : Nat) : ((ow L (lt R k)).foldl (fun b x => b ||| last x) (2 ^ k)).testBit i = true ↔ Below L R i k := by
  rw [fold_bit, Bool.or_eq_true, Nat.testBit_two_pow, List.any_eq_true]
  unfold Below
  rw [Reach.tail_iff]
  constructor
  · rintro (e | ⟨x, hx, hb⟩)
    · exact .inl (of_decide_eq_true e).symm
    · obtain ⟨p, hp, hxp, hr⟩ := (I.la x i).mp hb
      exact .inr ⟨p, hp, ⟨x, hxp, hx⟩, hr⟩
  · rintro (e | ⟨p, hp, ⟨x, hxp, hx⟩, hr⟩)
    · exact .inl (decide_eq_true e.symm)
    · exact .inr ⟨x, hx, (I.la x i).mpr ⟨p, hp, hxp, hr⟩⟩
theorem BI.next {k : Nat} {Bs : List Nat} {last : Nat → Nat} (I : BI L R k Bs last) {b : Nat} (hb : b = (ow L (lt R k)).foldl (fun b x => b ||| last x) (2 ^ k)) : BI L R (k + 1) (Bs ++ [b]) (fun x => if x ∈ ow L (lt R k) then b else last x) := by
  have hbit := I.bits
  rw [← hb] at hbit
  refine ⟨by simp [I.len], fun j c hj i => ?_, fun x i => ?_⟩
  · by_cases h1 : j < k
    · rw [List.getElem?_append_left (by rw [I.len]; exact h1)] at hj
      exact I.bs j c hj i
    · rw [List.getElem?_append_right (by rw [I.len]; omega), I.len] at hj
      have : j = k := by
        have := (List.getElem?_eq_some_iff.mp hj).1
        simp at this; omega
      subst this
      simp at hj; subst hj
      exact hbit i
  · by_cases hx : x ∈ ow L (lt R k)
    · rw [if_pos hx, hbit]
      constructor
      · intro hr; exact ⟨k, by omega, hx, hr⟩
      · rintro ⟨p, hp, hxp, hr⟩
        by_cases e : p = k
        · subst e; exact hr
        · exact .tail hr (by omega) ⟨x, hxp, hx⟩
    · rw [if_neg hx, I.la]
      constructor
      · rintro ⟨p, hp, hxp, hr⟩; exact ⟨p, by omega, hxp, hr⟩
      · rintro ⟨p, hp, hxp, hr⟩
        refine ⟨p, ?_, hxp, hr⟩
        have : p ≠ k := fun e => by subst e; exact hx hxp
        omega
theorem bits_turn (H : House h L) (hR : RowOk L R) {k : Nat} (hk : k < R.length) (hl : R.length ≤ 1000) {Bs : List Nat} {last : Nat → Nat} {v4 v5 v6 v7 : Option D} (I : BI L R k Bs last) :
    ∃ Bs' last' v4' v5' v6' v7', stepS (gT 2 (gsC (gN 4) (gsC (gN 5) gsN))) l_bits_below_3 (.tup [.int (k : Int), sgD (lt R k)]) [some (houD false h L), some (.str (rowS R)), some (.lst true (Bs.map natD)), some (lastD h last), v4, v5, v6, v7]
      = .nx [some (houD false h L), some (.str (rowS R)), some (.lst true (Bs'.map natD)), some (lastD h last'), v4', v5', v6', v7'] ∧ BI L R (k + 1) Bs' last' := by
  obtain ⟨ho, hlt⟩ := own_lt H hR hk
  obtain ⟨ρ1, lp1, w7, e1⟩ := bits_gather (h := h) (v0 := some (houD false h L)) (v1 := some (.str (rowS R))) (v2 := some (.lst true (Bs.map natD))) (v4 := some (.int (k : Int))) (v5 := some (sgD (lt R k))) (last := last) (ow L (lt R k)) hlt (2 ^ k) v7
  subst e1
  obtain ⟨b, hb⟩ : ∃ b, b = (ow L (lt R k)).foldl (fun b x => b ||| last x) (2 ^ k) := ⟨_, rfl⟩
  rw [← hb] at lp1
  obtain ⟨ρ2, lp2, w7', e2⟩ := bits_spread (h := h) (v0 := some (houD false h L)) (v1 := some (.str (rowS R))) (v2 := some (.lst true (Bs.map natD))) (v4 := some (.int (k : Int))) (v5 := some (sgD (lt R k))) (last := last) (ow L (lt R k)) hlt b w7
  subst e2
  refine ⟨Bs ++ [b], _, some (.int (k : Int)), some (sgD (lt R k)), some (natD b), w7', ?_, I.next hb⟩
  have cp := cpow_small 1 k (by omega) (by decide)
  have e0 : ((2 : Int) ^ k) = ((2 ^ k : Nat) : Int) := by norm_cast
  have hs : Bs.length < sizeLine := by rw [I.len]; unfold sizeLine; omega
  have lp1' : loopS (stepS (gN 7) l_bits_below_2) ((ow L (lt R k)).map natD) [some (houD false h L), some (.str (rowS R)), some (.lst true (Bs.map natD)), some (lastD h last), some (.int (k : Int)), some (sgD (lt R k)), some (.int ((2 ^ k : Nat) : Int)), v7] = _ := lp1
  rw [ap_step]
  unfold l_bits_below_3
  simp [cp, e0, ho, ownD, -Int.natCast_pow] at lp1' ⊢
  rw [lp1']
  simp [ho, ownD, lp2, hs]
theorem row_get {k : Nat} {d : D} (hk : (R.map sgD)[k]? = some d) : d = sgD (lt R k) ∧ k < R.length := by
  rw [List.getElem?_map] at hk
  cases e : R[k]? with
  | none => rw [e] at hk; cases hk
  | some r =>
    rw [e] at hk; cases hk
    unfold lt; rw [e]; exact ⟨rfl, (List.getElem?_eq_some_iff.mp e).1⟩
theorem enumD_len : ∀ (k : Nat) (ds : List D), (enumD k ds).length = ds.length
  | _, [] => rfl
  | k, d :: ds => by rw [enumD, List.length_cons, enumD_len (k + 1) ds]; rfl
theorem bits_spec (H : House h L) (hR : RowOk L R) (hl : R.length ≤ 1000) : ∃ Bs : List Nat, m_bits_below [houD false h L, .str (rowS R)] = .rt (.lst true (Bs.map natD)) [none, none] ∧ Bs.length = R.length ∧ ∀ (j b : Nat), Bs[j]? = some b → ∀ i, b.testBit i = true ↔ Below L R i j := by
  have h4 := H.h4
  obtain ⟨ρ', lp, Bs, last, v4, v5, v6, v7, e, I⟩ := loop0 (step := stepS (gT 2 (gsC (gN 4) (gsC (gN 5) gsN))) l_bits_below_3) (ds := enumD 0 (R.map sgD)) (ρ := [some (houD false h L), some (.str (rowS R)), some (.lst true []), some (lastD h fun _ => 0), none, none, none, none])
    (fun k ρ => ∃ Bs last v4 v5 v6 v7, ρ = [some (houD false h L), some (.str (rowS R)), some (.lst true (Bs.map natD)), some (lastD h last), v4, v5, v6, v7] ∧ BI L R k Bs last)
    ⟨[], _, _, _, _, _, rfl, rfl, fun j b hj => by simp at hj, fun x i => by simp⟩ (by
      rintro j d ρ hj ⟨Bs, last, v4, v5, v6, v7, rfl, I⟩
      obtain ⟨e, he, rfl⟩ := enumD_get hj
      obtain ⟨rfl, hlt⟩ := row_get he
      obtain ⟨Bs', last', v4', v5', v6', v7', et, I'⟩ := bits_turn H hR hlt hl (v4 := v4) (v5 := v5) (v6 := v6) (v7 := v7) I
      refine ⟨_, ?_, Bs', last', v4', v5', v6', v7', rfl, I'⟩
      rw [Nat.zero_add]; exact et)
  subst e
  rw [enumD_len, List.length_map] at I
  refine ⟨Bs, ?_, I.len, I.bs⟩
  have lc : fLc (fItN rng1 (fCons (fI (vOp2 gIx (vVar 0) (vK (.int 0)))) fNil)) (gN 7) fYes (fK (.int 0)) [7] [some (houD false h L), some (.str (rowS R)), some (.lst true []), none, none, none, none, none] = .ok (lastD h fun _ => 0) [some (houD false h L), some (.str (rowS R)), some (.lst true []), none, none, none, none, none] := by
    unfold lastD
    refine lc_all (g := fun i => .int ((i : Nat) : Int)) ?_ (by simp) ?_ fun x _ => ?_
    · simp [rng1_n (n := h) (by omega)]
    · rw [List.length_range]; unfold sizeLine; omega
    · exact ⟨[some (houD false h L), some (.str (rowS R)), some (.lst true []), none, none, none, none, some (.int x)], by simp, [some (houD false h L), some (.str (rowS R)), some (.lst true []), none, none, none, none, some (.int x)], by simp [natD], by simp⟩
  unfold m_bits_below; rw [semOf_ap]; unfold b_bits_below
  simp [lc, enumS, strD_row, lp]
theorem both_spec (H : House h L) (hR : RowOk L R) (hl : R.length ≤ 1000) : m_look_both [houD false h L, .str (rowS R)] = .rt .non [none, none] := by
  unfold m_look_both; rw [semOf_ap]; unfold b_look_both; simp [look_spec H, lookrow_spec H hR (Nat.le_trans hl (by decide))]
end
theorem put_fold {κ : Type} [DecidableEq κ] : ∀ (m : List (κ × D)) (ks : List κ) (xs : List D), (m.map (·.1)).Nodup → (∀ p ∈ m, p.1 ∉ ks) → m.foldl (fun acc kd => putKs acc.1 acc.2 kd.1 kd.2) (ks, xs) = (ks ++ m.map (·.1), xs ++ m.map (·.2))
  | [], ks, xs, _, _ => by simp
  | p :: m, ks, xs, nd, hd => by
    rw [List.map_cons, List.nodup_cons] at nd
    rw [List.foldl_cons]
    have e : putKs ks xs p.1 p.2 = (ks ++ [p.1], xs ++ [p.2]) := by unfold putKs; rw [if_neg (hd p List.mem_cons_self)]
    rw [e, put_fold m _ _ nd.2 fun q hq => ?_]
    · simp
    · intro hm
      rcases List.mem_append.mp hm with hm | hm
      · exact hd q (List.mem_cons_of_mem _ hq) hm
      · rw [List.mem_singleton] at hm
        exact nd.1 (hm ▸ List.mem_map.mpr ⟨q, hq, rfl⟩)
theorem getK_map {κ α : Type} [DecidableEq κ] {kf : α → κ} {vf : α → D} : ∀ {xs : List α} {e : α}, (xs.map kf).Nodup → e ∈ xs → getK (xs.map kf) (xs.map vf) (kf e) = some (vf e)
  | x :: xs, e, nd, he => by
    rw [List.map_cons, List.nodup_cons] at nd
    rw [List.map_cons, List.map_cons, getK]
    rcases List.mem_cons.mp he with rfl | he
    · rw [if_pos rfl]
    · have : kf x ≠ kf e := fun z => nd.1 (z ▸ List.mem_map.mpr ⟨e, he, rfl⟩)
      rw [if_neg this]; exact getK_map nd.2 he
theorem rise_len : ∀ (l : List Nat) (lo h : Nat), l.Pairwise (· < ·) → (∀ x ∈ l, lo ≤ x ∧ x < h) → l.length ≤ h - lo
  | [], _, _, _, _ => by simp
  | x :: l, lo, h, hp, hx => by
    rw [List.pairwise_cons] at hp
    have h1 := hx x List.mem_cons_self
    have := rise_len l (x + 1) h hp.2 fun y hy => ⟨hp.1 y hy, (hx y (List.mem_cons_of_mem _ hy)).2⟩
    rw [List.length_cons]; omega
section
variable {h : Nat} {L : List (Nat × List Nat)} {R : List Nat}
def keyL (e : Nat × List Nat) : Key := .inr (sg e.1)
def ownsD (L : List (Nat × List Nat)) : D := .dct true (L.map keyL) (L.map fun e => ownD false e.2)
theorem key_nodup (H : House h L) : (L.map keyL).Nodup := by
  have := fst_nodup H.rise
  unfold List.Nodup at this ⊢
  rw [List.pairwise_map] at this ⊢
  exact this.imp fun hab z => hab (sg_inj.mp (Sum.inr.inj z))
theorem dict_spec (H : House h L) : gDict [.lst false (L.map (entD false))] = some (ownsD L) := by
  have hp : ∀ L : List (Nat × List Nat), pairsD (L.map (entD false)) = some (L.map fun e => (keyL e, ownD false e.2)) := by
    intro L
    induction L with
    | nil => rfl
    | cons e L ih =>
      rw [List.map_cons, entD, pairsD, ih]
      simp [Hap.keyOf, keyL]
  show (pairsD (L.map (entD false))).map _ = _
  rw [hp]
  have hm := put_fold (L.map fun e => (keyL e, ownD false e.2)) [] [] (by rw [List.map_map]; exact key_nodup H) (by simp)
  have hm' : mergeD (L.map fun e => (keyL e, ownD false e.2)) = _ := hm
  simp only [Option.map_some, hm']
  simp [ownsD, Function.comp_def]
theorem owns_ix (H : House h L) {e : Nat × List Nat} (he : e ∈ L) : gIx (ownsD L) (sgD e.1) = some (ownD false e.2) := by
  show (Hap.keyOf (sgD e.1)).bind (getK _ _) = _
  exact getK_map (kf := keyL) (vf := fun e => ownD false e.2) (key_nodup H) he
def hangB (L : List (Nat × List Nat)) (a b : Nat) : Bool := (ow L a).any fun x => decide (x ∈ ow L b)
theorem hangB_iff {a b : Nat} : hangB L a b = true ↔ Hang L a b := by
  unfold hangB Hang; rw [List.any_eq_true]; simp
theorem eqd_natD : EqD natD := eqd_nat
theorem hang_spec (H : House h L) {e f : Nat × List Nat} (he : e ∈ L) (hf : f ∈ L) : m__law_hang [houD false h L, sgD e.1, sgD f.1] = .rt (.bl (hangB L e.1 f.1)) [none, none, none] := by
  have lc : fLc (fIt itemsL (fI (vOp2 gIx (vVar 3) (vVar 1)))) (gN 4) fYes (fI (vOp2 gIn (vVar 4) (vOp2 gIx (vVar 3) (vVar 2)))) [4] [some (houD false h L), some (sgD e.1), some (sgD f.1), some (ownsD L), none]
      = .ok (.lst true (e.2.map fun x => .bl (decide (x ∈ f.2)))) [some (houD false h L), some (sgD e.1), some (sgD f.1), some (ownsD L), none] := by
    have hlen : e.2.length ≤ sizeLine := by
      have := rise_len e.2 0 h (H.own e he).rise fun x hx => ⟨by omega, (H.own e he).lt x hx⟩
      have := H.h4; unfold sizeLine; omega
    refine lc_all (g := natD) ?_ (by simp) hlen fun x hx => ?_
    · simp [owns_ix H he, ownD]
    · have hin : gIn (natD x) (ownD false f.2) = some (.bl (decide (x ∈ f.2))) := in_map eqd_natD sh_int fun y _ => sh_int
      exact ⟨[some (houD false h L), some (sgD e.1), some (sgD f.1), some (ownsD L), some (natD x)], by simp, [some (houD false h L), some (sgD e.1), some (sgD f.1), some (ownsD L), some (natD x)], by simp [owns_ix H hf, hin], by simp⟩
  have hga := any_map_bl (o := true) (fun x => decide (x ∈ f.2)) e.2
  unfold m__law_hang; rw [semOf_ap]; unfold b__law_hang hangB
  rw [ow_mem H.rise he, ow_mem H.rise hf]
  simp [dict_spec H, lc, hga, -any_l]
end
theorem rngD_down (j : Nat) (h : j < 2 ^ 40) : rngD [.int ((j : Int) - 1), .int (-1), .int (-1)] = some ((List.range j).map fun t => natD (j - 1 - t)) := by
  unfold rngD
  show (if _ then _ else _) = _
  rw [if_pos ⟨by omega, by omega, by omega, by omega⟩]
  have key : ∀ (n : Nat) (lo : Int), (n : Int) ≤ lo + 1 → rangeDc lo (-1) n = (List.range n).map fun t => D.int (lo - (t : Nat)) := by
    intro n
    induction n with
    | zero => intro lo _; rfl
    | succ n ih =>
      intro lo hlo
      rw [rangeDc, ih (lo + -1) (by omega), List.range_succ_eq_map, List.map_cons, List.map_map]
      congr 1
      · simp
      · apply List.map_congr_left; intro i _; show D.int _ = D.int _; congr 1; simp; omega
  rw [show ((j : Int) - 1 - -1).toNat = j by omega, key j _ (by omega)]
  congr 1
  apply List.map_congr_left
  intro t ht
  have := List.mem_range.mp ht
  show D.int _ = D.int _
  congr 1; omega
section
variable {h : Nat} {L : List (Nat × List Nat)} {R : List Nat}
theorem row_ix {i : Nat} (hi : i < R.length) (hl : R.length ≤ 1000) : gIx (.str (rowS R)) (.int (i : Int)) = some (sgD (lt R i)) := by
  show (if (rowS R).length ≤ sizeLine then (atI (rowS R).cps.toList (i : Int)).map fun c => D.str ⟨#[c]⟩ else none) = _
  rw [rowS_len, if_pos (by unfold sizeLine; omega), at_nat]
  unfold rowS lt
  simp [hi, sgD, sg]
theorem hang_lt (H : House h L) (hR : RowOk L R) {i k : Nat} (hi : i < R.length) (hk : k < R.length) : m__law_hang [houD false h L, sgD (lt R i), sgD (lt R k)] = .rt (.bl (hangB L (lt R i) (lt R k))) [none, none, none] := by
  obtain ⟨e, he, h1⟩ := lt_ok hR hi
  obtain ⟨f, hf, h2⟩ := lt_ok hR hk
  rw [← h1, ← h2]; exact hang_spec H he hf
def minD (m : Bool × List Nat) : D := .lst m.1 (m.2.map natD)
theorem below_turn (H : House h L) (hR : RowOk L R) (hl : R.length ≤ 1000) {j t : Nat} (hj : j < R.length) (ht : t < j) {f v5 : Option D} {o : Bool} {mine : List Nat} (hm : ∀ x, x ∈ mine ↔ j - t ≤ x ∧ Below L R x j) (hlen : mine.length ≤ t + 1) :
    ∃ (o' : Bool) (mine' : List Nat), stepS (gN 5) l__law_below_1 (natD (j - 1 - t)) [some (houD false h L), some (.str (rowS R)), f, some (.int (j : Int)), some (minD (o, mine)), v5, none] = .nx [some (houD false h L), some (.str (rowS R)), f, some (.int (j : Int)), some (minD (o', mine')), some (natD (j - 1 - t)), none] ∧
      (∀ x, x ∈ mine' ↔ j - (t + 1) ≤ x ∧ Below L R x j) ∧ mine'.length ≤ t + 1 + 1 ∧ (mine.Pairwise (· < ·) → mine'.Pairwise (· < ·)) := by
  obtain ⟨i, hi⟩ : ∃ i, i = j - 1 - t := ⟨_, rfl⟩
  rw [← hi]
  have hir : i < R.length := by omega
  have lc : fLc (fIt itemsL (fVar 4)) (gN 6) fYes (fCall 3 m__law_hang (fCons (fVar 0) (fCons (fI (vOp2 gIx (vVar 1) (vVar 5))) (fCons (fI (vOp2 gIx (vVar 1) (vVar 6))) fNil)))) [6] [some (houD false h L), some (.str (rowS R)), f, some (.int (j : Int)), some (minD (o, mine)), some (natD i), none]
      = .ok (.lst true (mine.map fun k => .bl (hangB L (lt R i) (lt R k)))) [some (houD false h L), some (.str (rowS R)), f, some (.int (j : Int)), some (minD (false, mine)), some (natD i), none] := by
    refine lc_all (g := natD) ?_ (by simp) (by unfold sizeLine; omega) fun k hk => ?_
    · simp [minD]
    · have hkj := ((hm k).mp hk).2.le
      refine ⟨[some (houD false h L), some (.str (rowS R)), f, some (.int (j : Int)), some (minD (false, mine)), some (natD i), some (natD k)], by simp, [some (houD false h L), some (.str (rowS R)), f, some (.int (j : Int)), some (minD (false, mine)), some (natD i), some (natD k)], ?_, by simp⟩
      simp [natD, row_ix hir hl, row_ix (show k < R.length by omega) hl, hang_lt H hR hir (show k < R.length by omega)]
  have hga := any_map_bl (o := true) (fun k => hangB L (lt R i) (lt R k)) mine
  have hB : (mine.any fun k => hangB L (lt R i) (lt R k)) = true ↔ Below L R i j := by
    unfold Below at hm ⊢
    rw [List.any_eq_true, Reach.head_iff]
    constructor
    · rintro ⟨k, hk, hh⟩
      obtain ⟨h1, h2⟩ := (hm k).mp hk
      exact .inr ⟨k, by omega, hangB_iff.mp hh, h2⟩
    · rintro (e | ⟨k, h1, h2, h3⟩)
      · omega
      · exact ⟨k, (hm k).mpr ⟨by omega, h3⟩, hangB_iff.mpr h2⟩
  cases hb : mine.any fun k => hangB L (lt R i) (lt R k) with
  | true =>
    rw [hb] at hga hB
    have hBi := hB.mp rfl
    refine ⟨true, i :: mine, ?_, fun x => ?_, by simp; omega, fun hp => List.pairwise_cons.mpr ⟨fun y hy => by have := ((hm y).mp hy).1; omega, hp⟩⟩
    · have ha : gAdd (.lst true [natD i]) (minD (false, mine)) = some (minD (true, i :: mine)) := by
        unfold minD; rw [add_ll, if_pos ⟨⟨by simp, by simp⟩, by unfold sizeLine; simp; omega⟩]; rfl
      have hs1 : 1 ≤ sizeLine := by decide
      rw [ap_step]; unfold l__law_below_1
      simp [lc, hga, -any_l, ha, hs1]
    · rw [List.mem_cons, hm]
      constructor
      · rintro (rfl | ⟨h1, h2⟩)
        · exact ⟨by omega, hBi⟩
        · exact ⟨by omega, h2⟩
      · rintro ⟨h1, h2⟩
        by_cases e : x = i
        · exact .inl e
        · exact .inr ⟨by omega, h2⟩
  | false =>
    rw [hb] at hga hB
    refine ⟨false, mine, ?_, fun x => ?_, by omega, id⟩
    · rw [ap_step]; unfold l__law_below_1
      simp [lc, hga, -any_l]
    · rw [hm]
      constructor
      · rintro ⟨h1, h2⟩; exact ⟨by omega, h2⟩
      · rintro ⟨h1, h2⟩
        refine ⟨?_, h2⟩
        have : x ≠ i := fun e => by subst e; exact absurd (hB.mpr h2) (by simp)
        omega
theorem below_row (H : House h L) (hR : RowOk L R) (hl : R.length ≤ 1000) {j : Nat} (hj : j < R.length) {fs : List D} {v3 v4 v5 : Option D} (hfs : fs.length = j) :
    ∃ (m : Bool × List Nat) (v4' v5' : Option D), stepS (gN 3) l__law_below_2 (.int (j : Int)) [some (houD false h L), some (.str (rowS R)), some (.lst true fs), v3, v4, v5, none] = .nx [some (houD false h L), some (.str (rowS R)), some (.lst true (fs ++ [minD m])), some (.int (j : Int)), v4', v5', none] ∧ (∀ x, x ∈ m.2 ↔ Below L R x j) ∧ m.2.length ≤ j + 1 ∧ m.2.Pairwise (· < ·) := by
  obtain ⟨ρ', lp, o, mine, v5', e, hm, hlen, hpw⟩ := loopM (step := stepS (gN 5) l__law_below_1) (f := fun t => natD (j - 1 - t)) (xs := List.range j) (ρ := [some (houD false h L), some (.str (rowS R)), some (.lst true fs), some (.int (j : Int)), some (minD (true, [j])), v5, none])
    (fun t ρ => ∃ (o : Bool) (mine : List Nat) (v5 : Option D), ρ = [some (houD false h L), some (.str (rowS R)), some (.lst true fs), some (.int (j : Int)), some (minD (o, mine)), v5, none] ∧ (∀ x, x ∈ mine ↔ j - t ≤ x ∧ Below L R x j) ∧ mine.length ≤ t + 1 ∧ mine.Pairwise (· < ·))
    ⟨true, [j], v5, rfl, fun x => by
      rw [List.mem_singleton]
      constructor
      · rintro rfl; exact ⟨by omega, .refl _⟩
      · rintro ⟨h1, h2⟩; have := h2.le; omega, by simp, by simp⟩ (by
      rintro t x ρ ht ⟨o, mine, v5, rfl, hm, hlen, hp⟩
      have htj : t < j := by
        have := (List.getElem?_eq_some_iff.mp ht).1
        simpa using this
      rw [List.getElem?_range htj] at ht
      cases ht
      obtain ⟨o', mine', e, h1, h2, h3⟩ := below_turn H hR hl hj htj (f := some (.lst true fs)) (v5 := v5) (o := o) hm hlen
      exact ⟨_, e, o', mine', _, rfl, h1, h2, h3 hp⟩)
  subst e
  rw [List.length_range] at hm hlen
  refine ⟨(o, mine), if isImm (minD (o, mine)) = true then some (minD (o, mine)) else none, v5', ?_, fun x => ?_, hlen, hpw⟩
  · have hr := rngD_down j (by omega)
    have hs : fs.length < sizeLine := by unfold sizeLine; omega
    have hs1 : 1 ≤ sizeLine := by decide
    have e1 : (D.lst true [D.int (j : Int)]) = minD (true, [j]) := rfl
    have e2 : ∀ z : Bool, (if z = true then some (minD (o, mine)) else none) = (if z = true then some (minD (o, mine)) else none) := fun _ => rfl
    rw [ap_step]; unfold l__law_below_2
    cases hi : isImm (minD (o, mine)) with
    | true => simp [e1, hr, lp, hs1, hi, hs]
    | false => simp [e1, hr, lp, hs1, hi, hs]
  · show x ∈ mine ↔ _
    rw [hm]
    exact ⟨fun h => h.2, fun h => ⟨by omega, h⟩⟩
theorem below_spec3 (H : House h L) (hR : RowOk L R) (hl : R.length ≤ 1000) : ∃ Ms : List (Bool × List Nat), m__law_below [houD false h L, .str (rowS R)] = .rt (.lst true (Ms.map minD)) [none, none] ∧ Ms.length = R.length ∧ ∀ j m, Ms[j]? = some m → (∀ x, x ∈ m.2 ↔ Below L R x j) ∧ m.2.length ≤ R.length ∧ m.2.Pairwise (· < ·) := by
  obtain ⟨ρ', lp, Ms, v3, v4, v5, e, hlen, hM⟩ := loopR (step := stepS (gN 3) l__law_below_2) (n := R.length) (ρ := [some (houD false h L), some (.str (rowS R)), some (.lst true []), none, none, none, none])
    (fun k ρ => ∃ (Ms : List (Bool × List Nat)) (v3 v4 v5 : Option D), ρ = [some (houD false h L), some (.str (rowS R)), some (.lst true (Ms.map minD)), v3, v4, v5, none] ∧ Ms.length = k ∧ ∀ j m, Ms[j]? = some m → (∀ x, x ∈ m.2 ↔ Below L R x j) ∧ m.2.length ≤ R.length ∧ m.2.Pairwise (· < ·))
    ⟨[], _, _, _, rfl, rfl, fun j m hj => by simp at hj⟩ (by
      rintro j ρ hj ⟨Ms, v3, v4, v5, rfl, hlen, hM⟩
      obtain ⟨m, v4', v5', e, hm⟩ := below_row H hR hl hj (fs := Ms.map minD) (v3 := v3) (v4 := v4) (v5 := v5) (by simp [hlen])
      refine ⟨_, e, Ms ++ [m], _, v4', v5', by rw [List.map_append]; rfl, by simp [hlen], fun p q hp => ?_⟩
      by_cases h1 : p < Ms.length
      · rw [List.getElem?_append_left h1] at hp; exact hM p q hp
      · rw [List.getElem?_append_right (by omega)] at hp
        have : p = Ms.length := by
          have := (List.getElem?_eq_some_iff.mp hp).1
          simp at this; omega
        subst this
        simp at hp; subst hp
        rw [hlen]; exact ⟨hm.1, by have := hm.2.1; omega, hm.2.2⟩)
  subst e
  refine ⟨Ms, ?_, hlen, hM⟩
  have hs : R.length ≤ sizeLine := by unfold sizeLine; omega
  unfold m__law_below; rw [semOf_ap]; unfold b__law_below
  simp [hs, rng1_n (n := R.length) (by omega), lp]
end
@[simp] theorem frzs_ints {ns : List Int} : frzs (ns.map D.int) = ns.map D.int := frzs_mapf fun _ _ => rfl
end M
namespace M
open PySem PySem.Spec PyProof.Rows L2 Hap
theorem inv_i {i : Int} : gInv (.int i) = some (.int (Builtin.bitNot i)) := rfl
theorem band_inv (b c : Nat) : Builtin.bitAnd (b : Int) (Builtin.bitNot (c : Int)) = (b : Int) - ((b &&& c : Nat) : Int) := by
  have e : Builtin.bitNot (Builtin.bitNot (c : Int)) = (c : Int) := by rw [Hap.bitNot_eq, Hap.bitNot_eq]; omega
  unfold Builtin.bitAnd
  rw [decide_eq_true (Int.natCast_nonneg b), decide_eq_false (show ¬ 0 ≤ Builtin.bitNot (c : Int) by rw [Hap.bitNot_eq]; omega)]
  dsimp only
  rw [e]; rfl
section
variable {h : Nat} {L : List (Nat × List Nat)} {R : List Nat}
theorem intsD_nats (ows : List Nat) : intsD (ows.map natD) = some (ows.map fun x => ((x : Nat) : Int)) := intsD_map (fun x : Nat => (x : Int)) ows
end
theorem ne_nil {α : Type} {f : α → D} {xs : List α} {o o' : Bool} (hx : ∀ x ∈ xs, Sh 60 (f x)) : gNe (.lst o (xs.map f)) (.lst o' []) = some (.bl (!decide (xs = []))) := by
  have h1 : Sh 61 (.lst o (xs.map f)) := sh_lst fun d hd => by obtain ⟨x, hx', rfl⟩ := List.mem_map.mp hd; exact hx x hx'
  have h2 : Sh 61 (.lst o' []) := sh_lst fun d hd => by cases hd
  have e : gEq (.lst o (xs.map f)) (.lst o' []) = some (.bl (decide (xs = []))) := by
    unfold gEq
    dsimp only
    rw [if_pos ⟨h1.shaped (by omega), h2.shaped (by omega)⟩]
    cases xs with
    | nil => simp [toPy, toPys, PyData.eqv, PyData.eqvAll]
    | cons x xs => simp [toPy, toPys, PyData.eqv, PyData.eqvAll]
  unfold gNe; rw [e]
end M
namespace M
open PySem PySem.Spec PyProof.Rows L2 Hap
def see (L : List (Nat × List Nat)) (x : Nat) (R : List Nat) : List Nat := R.filter fun r => decide (x ∈ ow L r)
def joinR (d : D) (k : R D) : R D := match d with
  | .str _ => k
  | _ => .stk
@[simp] theorem joinR_s {x : Str} {k : R D} : joinR (.str x) k = k := (rfl)
@[simp] theorem ap_join {f g : Ev → R D} {ρ : Ev} : fJoin f g ρ = (f ρ).bind fun d ρ1 => joinR d ((g ρ1).bind fun e ρ2 => R.of (gJoin d e) ρ2) := by
  unfold fJoin joinR; rfl
section
variable {h : Nat} {L : List (Nat × List Nat)} {R R' : List Nat}
theorem ow_of_mem (H : House h L) {r x : Nat} : x ∈ ow L r ↔ ∃ e ∈ L, e.1 = r ∧ x ∈ e.2 := by
  constructor
  · intro hx
    unfold ow at hx
    cases hf : L.find? fun e => e.1 == r with
    | none => rw [hf] at hx; simp at hx
    | some e =>
      rw [hf] at hx
      have := List.find?_some hf
      exact ⟨e, List.mem_of_find?_eq_some hf, by simpa using this, by simpa using hx⟩
  · rintro ⟨e, he, rfl, hx⟩
    rw [ow_mem H.rise he]; exact hx
theorem rowS_inj {A B : List Nat} : rowS A = rowS B ↔ A = B := by
  constructor
  · intro e
    have : (A.map (97 + ·)).toArray = (B.map (97 + ·)).toArray := congrArg Str.cps e
    have := congrArg Array.toList this
    simp only at this
    have h2 := congrArg (List.map fun x => x - 97) this
    rw [List.map_map, List.map_map] at h2
    have e0 : ((fun x => x - 97) ∘ fun x : Nat => 97 + x) = id := by funext x; simp
    rw [e0, List.map_id, List.map_id] at h2
    exact h2
  · rintro rfl; rfl
def rowD (R : List Nat) : D := .str (rowS R)
@[simp] theorem frz_rowD {R} : frz (rowD R) = rowD R := rfl
@[simp] theorem imm_rowD {R} : isImm (rowD R) = true := rfl
theorem RowOk.sub (hR : RowOk L R) (hs : ∀ r ∈ R', r ∈ R) : RowOk L R' := fun r hr => hR r (hs r hr)
theorem RowOk.see (hR : RowOk L R) {x : Nat} : RowOk L (see L x R) := hR.sub fun r hr => (List.mem_filter.mp hr).1
/-- all hands see the same -/
def Same (h : Nat) (L : List (Nat × List Nat)) (A B : List Nat) : Prop := ∀ x, x < h → see L x A = see L x B
instance : Decidable (Same h L R R') := inferInstanceAs (Decidable (∀ x, x < h → _))
end
theorem rowS_app (A B : List Nat) : rowS A ++ rowS B = rowS (A ++ B) := by
  show (⟨(rowS A).cps ++ (rowS B).cps⟩ : Str) = _
  simp [rowS]
theorem add_rows {A B : List Nat} (hl : A.length + B.length ≤ 100000) : gAdd (.str (rowS A)) (.str (rowS B)) = some (.str (rowS (A ++ B))) := by
  rw [add_ss, if_pos (by rw [rowS_len, rowS_len]; unfold sizeLine; omega), rowS_app]
theorem see_app {L : List (Nat × List Nat)} {x : Nat} {A B : List Nat} : see L x (A ++ B) = see L x A ++ see L x B := by unfold see; rw [List.filter_append]
theorem see_map {L : List (Nat × List Nat)} {x : Nat} {R : List Nat} {l : List Nat} : see L x (l.map (lt R)) = (l.filter fun p => decide (x ∈ ow L (lt R p))).map (lt R) := by
  unfold see; rw [List.filter_map]; rfl
end M
namespace M
open PySem PySem.Spec PyProof.Rows L2 Hap
section
variable {h : Nat} {L : List (Nat × List Nat)} {R S : List Nat}
theorem Hang.symm {a b : Nat} (h : Hang L a b) : Hang L b a := by
  obtain ⟨x, h1, h2⟩ := h; exact ⟨x, h2, h1⟩
theorem hang_self (H : House h L) (hR : RowOk L R) {a : Nat} (ha : a ∈ R) : Hang L a a := by
  obtain ⟨e, he, rfl⟩ := hR a ha
  have ho := H.own e he
  obtain ⟨x, hx⟩ := List.exists_mem_of_ne_nil _ ho.ne
  rw [Hang, ow_mem H.rise he]
  exact ⟨x, hx, hx⟩
/-- the letter at p hangs on none ahead -/
structure Fore (L : List (Nat × List Nat)) (R : List Nat) (p : Nat) : Prop where
  lt : p < R.length
  free : ∀ q, q < p → ¬ Hang L (M.lt R q) (M.lt R p)
/-- the place of the least letter that hangs on none ahead -/
structure Lp (L : List (Nat × List Nat)) (R : List Nat) (p : Nat) : Prop where
  fore : Fore L R p
  le : ∀ q, Fore L R q → M.lt R p ≤ M.lt R q
inductive Least (L : List (Nat × List Nat)) : List Nat → List Nat → Prop
  | nil : Least L [] []
  | step {R S p} : Lp L R p → Least L (R.eraseIdx p) S → Least L R (M.lt R p :: S)
theorem Least.len {R S : List Nat} (h : Least L R S) : S.length = R.length := by
  induction h with
  | nil => rfl
  | step hp _ ih =>
    have := hp.fore.lt
    rw [List.length_cons, ih, List.length_eraseIdx_of_lt this]; omega
theorem lt_mem {p : Nat} (hp : p < R.length) : M.lt R p ∈ R := by
  have : M.lt R p = R[p] := by simp [M.lt, hp]
  rw [this]; exact List.getElem_mem hp
theorem erase_mem {p : Nat} {r : Nat} (h : r ∈ R.eraseIdx p) : r ∈ R := (List.eraseIdx_sublist R p).subset h
theorem RowOk.erase (hR : RowOk L R) {p : Nat} : RowOk L (R.eraseIdx p) := hR.sub fun _ h => erase_mem h
theorem Least.ok (h : Least L R S) (hR : RowOk L R) : RowOk L S := by
  induction h with
  | nil => exact hR
  | step hp _ ih =>
    intro r hr
    rcases List.mem_cons.mp hr with rfl | hr
    · exact hR _ (lt_mem hp.fore.lt)
    · exact ih hR.erase r hr
theorem lt_cons_succ {a : Nat} {R : List Nat} {p : Nat} : M.lt (a :: R) (p + 1) = M.lt R p := by simp [M.lt]
theorem lt_cons_zero {a : Nat} {R : List Nat} : M.lt (a :: R) 0 = a := by simp [M.lt]
theorem Fore.tail {a : Nat} {p : Nat} (h : Fore L (a :: R) (p + 1)) : Fore L R p ∧ ¬ Hang L a (M.lt R p) := by
  refine ⟨⟨by have := h.lt; rw [List.length_cons] at this; omega, fun q hq => ?_⟩, ?_⟩
  · have := h.free (q + 1) (by omega)
    rwa [lt_cons_succ, lt_cons_succ] at this
  · have := h.free 0 (by omega)
    rwa [lt_cons_succ, lt_cons_zero] at this
/-- what hangs on none ahead may be brought ahead: all hands see the same -/
theorem see_fore {x : Nat} : ∀ {R : List Nat} {p : Nat}, Fore L R p → see L x (M.lt R p :: R.eraseIdx p) = see L x R
  | [], p, h => absurd h.lt (by simp)
  | a :: R, 0, h => by rw [lt_cons_zero]; rfl
  | a :: R, p + 1, h => by
    obtain ⟨h1, h2⟩ := h.tail
    have ih := see_fore (x := x) h1
    rw [lt_cons_succ, List.eraseIdx_cons_succ]
    have ih' : see L x (M.lt R p :: R.eraseIdx p) = see L x R := ih
    unfold see at ih' ⊢
    simp only [List.filter_cons] at ih' ⊢
    rw [← ih']
    by_cases c1 : x ∈ ow L (M.lt R p)
    · have c2 : ¬ x ∈ ow L a := fun c2 => h2 ⟨x, c2, c1⟩
      simp [c1, c2]
    · simp [c1]
theorem Least.see (hh : Least L R S) (x : Nat) : see L x S = M.see L x R := by
  induction hh with
  | nil => rfl
  | step hp _ ih =>
    rw [← see_fore hp.fore]
    unfold M.see at ih ⊢
    simp only [List.filter_cons]
    rw [ih]
theorem Least.same (hh : Least L R S) : Same h L S R := fun x _ => hh.see x
/-- a letter that hangs on none ahead, by what the hands see -/
theorem fore_iff {a : Nat} : ∀ {R : List Nat}, (∃ p, Fore L R p ∧ M.lt R p = a) ↔ a ∈ R ∧ (∀ x ∈ ow L a, (see L x R).head? = some a)
  | [] => by
    constructor
    · rintro ⟨p, h, _⟩; exact absurd h.lt (by simp)
    · rintro ⟨h, _⟩; cases h
  | b :: R => by
    have ih := fore_iff (a := a) (R := R)
    constructor
    · rintro ⟨p, h, rfl⟩
      refine ⟨lt_mem h.lt, fun x hx => ?_⟩
      rw [← see_fore (x := x) h]
      unfold M.see
      rw [List.filter_cons, if_pos (decide_eq_true hx)]; rfl
    · rintro ⟨h1, h2⟩
      by_cases e : a = b
      · subst e
        exact ⟨0, ⟨by simp, fun q hq => by omega⟩, lt_cons_zero⟩
      · have hab : ¬ Hang L b a := by
          rintro ⟨x, hx1, hx2⟩
          have := h2 x hx2
          unfold M.see at this
          rw [List.filter_cons, if_pos (decide_eq_true hx1)] at this
          exact e (by simpa using this.symm)
        have hm : a ∈ R := (List.mem_cons.mp h1).resolve_left e
        obtain ⟨p, hp, hpa⟩ := ih.mpr ⟨hm, fun x hx => by
          have := h2 x hx
          have c2 : ¬ x ∈ ow L b := fun c2 => hab ⟨x, c2, hx⟩
          unfold M.see at this ⊢
          rw [List.filter_cons, if_neg (by simpa using c2)] at this
          exact this⟩
        refine ⟨p + 1, ⟨by have := hp.lt; simp; omega, fun q hq => ?_⟩, by rw [lt_cons_succ]; exact hpa⟩
        rw [lt_cons_succ]
        cases q with
        | zero => rw [lt_cons_zero, hpa]; exact hab
        | succ q => rw [lt_cons_succ]; exact hp.free q (by omega)
theorem mem_see {a x : Nat} : a ∈ see L x R ↔ a ∈ R ∧ x ∈ ow L a := by
  unfold M.see; rw [List.mem_filter, decide_eq_true_eq]
/-- rows of which all hands see the same have the same letters -/
theorem Same.mem (H : House h L) {A B : List Nat} (hA : RowOk L A) (hs : Same h L A B) {a : Nat} (ha : a ∈ A) : a ∈ B := by
  obtain ⟨e, he, rfl⟩ := hA a ha
  obtain ⟨x, hx⟩ := List.exists_mem_of_ne_nil _ (H.own e he).ne
  have hx' : x ∈ ow L e.1 := by rw [ow_mem H.rise he]; exact hx
  have : e.1 ∈ M.see L x A := mem_see.mpr ⟨ha, hx'⟩
  rw [hs x ((H.own e he).lt x hx)] at this
  exact (mem_see.mp this).1
theorem Same.symm {A B : List Nat} (hs : Same h L A B) : Same h L B A := fun x hx => (hs x hx).symm
theorem Same.trans {A B C : List Nat} (hs : Same h L A B) (ht : Same h L B C) : Same h L A C := fun x hx => (hs x hx).trans (ht x hx)
theorem Same.refl {A : List Nat} : Same h L A A := fun _ _ => rfl
theorem ow_lt (H : House h L) {a x : Nat} (hx : x ∈ ow L a) : x < h := by
  obtain ⟨e, he, _, hx'⟩ := (ow_of_mem H).mp hx
  exact (H.own e he).lt x hx'
theorem Same.fore (H : House h L) {A B : List Nat} (hA : RowOk L A) (hs : Same h L A B) {a : Nat} (ha : ∃ p, Fore L A p ∧ M.lt A p = a) : ∃ p, Fore L B p ∧ M.lt B p = a := by
  obtain ⟨h1, h2⟩ := fore_iff.mp ha
  exact fore_iff.mpr ⟨hs.mem H hA h1, fun x hx => by rw [← hs x (ow_lt H hx)]; exact h2 x hx⟩
/-- the least row hangs on what the hands see alone -/
theorem Least.uniq (H : House h L) {A S : List Nat} (hA : Least L A S) : ∀ {B T : List Nat}, RowOk L A → RowOk L B → Least L B T → Same h L A B → S = T := by
  induction hA with
  | nil =>
    intro B T _ hB hT hs
    cases hT with
    | nil => rfl
    | step hp _ =>
      have := hs.symm.mem H hB (lt_mem hp.fore.lt)
      cases this
  | @step A S p hp hS ih =>
    intro B T hA hB hT hs
    cases hT with
    | nil =>
      have := hs.mem H hA (lt_mem hp.fore.lt)
      cases this
    | @step _ T q hq hT =>
      have e : M.lt A p = M.lt B q := by
        obtain ⟨q', h1, h2⟩ := hs.fore H hA ⟨p, hp.fore, rfl⟩
        obtain ⟨p', h3, h4⟩ := hs.symm.fore H hB ⟨q, hq.fore, rfl⟩
        have l1 := hq.le q' h1
        have l2 := hp.le p' h3
        omega
      rw [e]
      congr 1
      refine ih hA.erase hB.erase hT fun x hx => ?_
      have h1 := see_fore (x := x) hp.fore
      have h2 := see_fore (x := x) hq.fore
      rw [hs x hx, ← h2, e] at h1
      unfold M.see at h1 ⊢
      simp only [List.filter_cons] at h1
      split at h1
      · exact (List.cons.inj h1).2
      · exact h1
end
end M
namespace M
open PySem PySem.Spec PyProof.Rows L2 Hap
theorem cut_row {Q : List Nat} {lo hi : Option Int} : L2.cutS (rowS Q) lo hi = rowS ((Q.drop (HT.sIx Q.length 0 lo)).take (HT.sIx Q.length Q.length hi - HT.sIx Q.length 0 lo)) := by
  unfold L2.cutS
  rw [rowS_len]
  show (⟨(List.take _ (List.drop _ (rowS Q).cps.toList)).toArray⟩ : Str) = ⟨_⟩
  unfold rowS
  simp only [List.map_take, List.map_drop]
theorem slice_row {Q : List Nat} {lo hi : Option Int} (hl : Q.length ≤ 100000) : gSl (.str (rowS Q)) lo hi = some (.str (rowS ((Q.drop (HT.sIx Q.length 0 lo)).take (HT.sIx Q.length Q.length hi - HT.sIx Q.length 0 lo)))) := by
  show (if (rowS Q).length ≤ sizeLine then some (D.str (L2.cutS (rowS Q) lo hi)) else none) = _
  rw [rowS_len, if_pos (by unfold sizeLine; omega), cut_row]
theorem slice_to {Q : List Nat} {p : Nat} (hl : Q.length ≤ 100000) : gSl (.str (rowS Q)) none (some (p : Int)) = some (.str (rowS (Q.take p))) := by
  rw [slice_row hl, HT.sIx_none, HT.sIx_nat, List.drop_zero, Nat.sub_zero]
  congr 3
  rcases Nat.le_total p Q.length with h | h
  · rw [Nat.min_eq_left h]
  · rw [Nat.min_eq_right h, List.take_length, List.take_of_length_le h]
theorem slice_from {Q : List Nat} {p : Nat} (hl : Q.length ≤ 100000) : gSl (.str (rowS Q)) (some (p : Int)) none = some (.str (rowS (Q.drop p))) := by
  rw [slice_row hl, HT.sIx_none, HT.sIx_nat]
  congr 3
  rcases Nat.le_total p Q.length with h | h
  · rw [Nat.min_eq_left h, List.take_of_length_le (by rw [List.length_drop]; omega)]
  · rw [Nat.min_eq_right h, Nat.sub_self, List.take_zero, List.drop_of_length_le h]
end M
namespace M
open PySem PySem.Spec PyProof.Rows L2 Hap
end M
namespace M
open PySem PySem.Spec PyProof.Rows L2 Hap
section
variable {h : Nat} {L : List (Nat × List Nat)} {R : List Nat}
/-- two free neighbours exchanged -/
theorem swap_same (H : House h L) {A : List Nat} {a b : Nat} {B : List Nat} (hf : ¬ Hang L a b) : Same h L (A ++ b :: a :: B) (A ++ a :: b :: B) := by
  intro x _
  unfold see
  rw [List.filter_append, List.filter_append]
  congr 1
  simp only [List.filter_cons]
  by_cases c1 : x ∈ ow L a
  · have c2 : ¬ x ∈ ow L b := fun c2 => hf ⟨x, c1, c2⟩
    simp [c1, c2]
  · simp [c1]
theorem drop_two {R : List Nat} {p : Nat} (hp : p + 1 < R.length) : R.drop p = M.lt R p :: M.lt R (p + 1) :: R.drop (p + 2) := by
  rw [List.drop_eq_getElem_cons (by omega), List.drop_eq_getElem_cons hp]
  simp [M.lt, hp, show p < R.length by omega]
end
end M
namespace M
open PySem PySem.Spec PyProof.Rows L2 Hap
end M
namespace Hap
open PySem PySem.Spec PyProof.Rows L2
/-- what is asked of a kind of keys -/
structure SetKind {P : Program} {w : World} {κ : Type} [DecidableEq κ] (knd : HeapKind P w κ) : Prop where
  cls : ∀ {A : Around} {E : Value → Shared → Prop} {s : Shared} {k : κ} {b : Addr} {Q : Bool → Shared → Prop}, knd.is s.heap k b → Q false s → wpAny (model P w) A (ofAClassStatement 8 (.ref b)) Q E s
  val : ∀ {A : Around} {E : Value → Shared → Prop} {s : Shared} {k : κ} {b : Addr} (Q : Bool → Shared → Prop), knd.is s.heap k b → (∀ c, Q c s) → wpAny (model P w) A (hashByValue 8 (.ref b)) Q E s
  same : ∀ {h h' : Heap} {k : κ} {a b : Addr} {o : Obj} {es : Array (Int × Value)} {ep : Nat} {t : SetTable}, knd.is h k b → h.get? a = some o → o.data = .set es ep t → Heap.SameBut a h h' → knd.is h' k b
  keep : ∀ {h h' : Heap} {k : κ} {b : Addr}, knd.is h k b → (∀ c o, h.get? c = some o → h'.get? c = some o) → knd.is h' k b
section
variable {P : Program} {w : World} {κ : Type} [DecidableEq κ] {knd : HeapKind P w κ} (ok : SetKind knd) {A : Around} {E : Value → Shared → Prop} {s : Shared}
include ok
def rowsN (knd : HeapKind P w κ) (L : List (Addr × κ)) : List (Int × Value) := L.map fun p => (knd.hash p.2, Value.ref p.1)
structure SetNR (knd : HeapKind P w κ) (h : Heap) (a : Addr) (L : List (Addr × κ)) (es : Array (Int × Value)) (ep : Nat) (t : SetTable) : Prop where
  ob : ∃ o, h.get? a = some o ∧ o.ExactSet ∧ o.data = .set es ep t
  rows : es.toList = rowsN knd L
  tab : TabOk t (L.map fun p => knd.hash p.2)
  nd : (L.map (·.2)).Nodup
  tup : ∀ p ∈ L, knd.is h p.2 p.1
  led : w.params.followText "set-order" = true ∨ t.led = true
  room : L.length * 5 < t.mask * 3
  few : L.length < 64
variable {a : Addr} {L : List (Addr × κ)} {es : Array (Int × Value)} {ep : Nat} {t : SetTable}
omit ok in
theorem SetNR.size (R : SetNR knd s.heap a L es ep t) : es.size = L.length := by
  have h := congrArg List.length R.rows
  unfold rowsN at h
  rw [Array.length_toList, List.length_map] at h
  exact h
variable {a : Addr} {L : List (Addr × κ)} {es : Array (Int × Value)} {ep : Nat} {t : SetTable}
/-- what the set has got from the first i items -/
structure GotN (ks : List (Addr × κ)) (i : Nat) (L : List (Addr × κ)) : Prop where
  sub : ∀ p ∈ L, p ∈ ks.take i
  all : ∀ p ∈ ks.take i, p.2 ∈ L.map (·.2)
  len : L.length ≤ i
omit ok in
theorem take_nextN {α : Type} {l : List α} {i : Nat} {x : α} (h : l[i]? = some x) : l.take (i + 1) = l.take i ++ [x] := by
  rw [List.take_succ, h] <;> rfl
omit ok in
theorem GotN.same {ks L : List (Addr × κ)} {i : Nat} {x : Addr × κ} (g : GotN ks i L) (h : ks[i]? = some x) (m1 : x.2 ∈ L.map (·.2)) : GotN ks (i + 1) L := by
  refine ⟨fun p p1 => ?_, fun p p1 => ?_, Nat.le_succ_of_le g.len⟩
  · rw [take_nextN h]
    exact List.mem_append_left _ (g.sub p p1)
  · rw [take_nextN h] at p1
    rcases List.mem_append.mp p1 with z | z
    · exact g.all p z
    · rw [List.mem_singleton.mp z]; exact m1
omit ok in
theorem GotN.more {ks L L' : List (Addr × κ)} {i : Nat} {x : Addr × κ} (g : GotN ks i L) (h : ks[i]? = some x) (pm : L'.Perm (x :: L)) : GotN ks (i + 1) L' := by
  refine ⟨fun p p1 => ?_, fun p p1 => ?_, ?_⟩
  · rw [take_nextN h]
    rcases List.mem_cons.mp (pm.mem_iff.mp p1) with e | z
    · rw [e]; exact List.mem_append_right _ (List.mem_singleton.mpr rfl)
    · exact List.mem_append_left _ (g.sub p z)
  · rw [(pm.map (·.2)).mem_iff, List.map_cons]
    rw [take_nextN h] at p1
    rcases List.mem_append.mp p1 with z | z
    · exact List.mem_cons_of_mem _ (g.all p z)
    · rw [List.mem_singleton.mp z]; exact List.mem_cons_self
  · rw [pm.length_eq, List.length_cons]
    exact Nat.succ_le_succ g.len
omit ok in
theorem SetNR.keep {h h' : Heap} {a : Addr} {L : List (Addr × κ)} {es : Array (Int × Value)} {ep : Nat} {t : SetTable} (R : SetNR knd h a L es ep t) (ha : ∀ o, h.get? a = some o → h'.get? a = some o) (ht : ∀ p ∈ L, knd.is h' p.2 p.1) : SetNR knd h' a L es ep t := by
  obtain ⟨o, oo, r⟩ := R.ob
  exact ⟨⟨o, ha o oo, r⟩, R.rows, R.tab, R.nd, ht, R.led, R.room, R.few⟩
end
end Hap
namespace Hap
open PySem PySem.Spec PyProof.Rows L2
end Hap
namespace Hap
open PySem PySem.Spec PyProof.Rows L2
open PySem.W (EachIs AllAlike Sortable dataLe dataLt)
structure SO {α : Type} (lt : α → α → Bool) : Prop where
  irr : ∀ a, lt a a = false
  tr : ∀ a b c, lt a b = true → lt b c = true → lt a c = true
  tri : ∀ a b, a ≠ b → lt a b = true ∨ lt b a = true
section
variable {α : Type} [DecidableEq α] {lt : α → α → Bool}
theorem SO.neg (O : SO lt) {a b : α} (h : lt b a = false) (n : a ≠ b) : lt a b = true := (O.tri a b n).resolve_right fun z => by rw [h] at z; cases z
end
end Hap
namespace Hap
open PySem PySem.Spec PyProof.Rows L2
open PySem.W (EachIs AllAlike Sortable dataLe dataLt)
end Hap
namespace Hap
open PySem PySem.Spec PyProof.Rows L2
open PySem.W (EachIs)
end Hap
namespace Hap
open PySem PySem.Spec PyProof.Rows L2
end Hap
namespace L2
open PySem PySem.Spec PyProof.Rows
def tDispT (tk tv : TE) : TE := fun σ H Q => ∀ p, H p = none → tPairs [(tk, tv)] σ (upd H p (.dT [])) fun ps H2 => H2 p = some (.dT []) ∧ ∃ (k : List Key) (b : Addr) (y : V), ps = [(.ref b, y)] ∧ H2 b = some (.tup (k.map kV)) ∧ Q (.ref p) (upd H2 p (.dT [(k, y)]))
theorem pe_dispT {X : Cx} {pos : Pos} {ek ev : Expr} {tk tv : TE} (hu : X.A.units < cLine) (h : PPs X pos [some ek] [ev] [(tk, tv)]) : PE X (.Dict [some ek] [ev] pos) (tDispT tk tv) := by
  refine ⟨fun pins s σ H Q I q => ?_⟩
  have hn := I.hok.fresh (Nat.le_refl s.heap.objs.size)
  have I1 := I.laid (a := s.heap.objs.size) (o := .dT []) (h' := s.heap.push { cls := .type "dict", data := .dict #[] }) (t' := s.toks) (fun _ _ q => Heap.get?_push_of_some _ q) (Nat.le_refl _) (dt_empty s.heap I.big)
  refine wpAny_Dict_any rfl rfl (by simp) (by simp) (thn (h.run pins _ σ _ _ I1 (q _ hn)) fun ws s2 ⟨ps, H2, I2, rel, e, k, b, y, ep, eb, q2⟩ => ?_)
  subst ep
  cases rel with
  | @cons p0 w0 r0 ws' hh ht =>
  cases ht
  obtain ⟨w1, w2⟩ := w0
  obtain ⟨r1, r2⟩ := hh
  cases (show w1 = Value.ref b from r1)
  obtain ⟨z, hd, xs, rel, dd⟩ := dt_of I2.hok e
  cases rel
  unfold storeAll
  rw [List.forIn_cons]
  refine wpAny_bind (wpAny_bind (wpAny_dictSet_heap (knd := tupleKind (mixKind X.prog X.w)) (hsz := by rw [sizeLine_eq]; simp) hu (key_of I2.hok eb) dd fun h' dd' hs => wpAny_pure ?_))
  dsimp only
  rw [List.forIn_nil]
  refine wpAny_pure ⟨.ref s.heap.objs.size, _, ?_, rfl, q2⟩
  obtain ⟨o', es, ep, hq, h2, h3, h4, _, h5⟩ := dd'
  refine d_write I2 (by rw [e]; exact True.intro) hs ⟨o', hq⟩ ⟨by rw [sizeLine_eq]; simp, hd, _, (KT.put (H := H2) (kvs := []) (xs := []) .nil k eb r2).keeps fun c ys ec => ?_, o', es, ep, hq, h2, h3, h4, h5⟩
  rw [upd_ne (ne_of ec e (fun z => nomatch z))]
  exact ec
end L2
namespace Hap
open PySem PySem.Spec PyProof.Rows L2
variable [TabC]
def fD1K (fk fv : Ev → R D) : Ev → R D := fun ρ => (fk ρ).bind fun k ρ1 => (fv ρ1).bind fun d ρ2 => match keyOf k with
  | some c => .ok (.dct true [c] [frz d]) ρ2
  | none => .stk
def fD1T (fk fv : Ev → R D) : Ev → R D := fun ρ => (fk ρ).bind fun k ρ1 => (fv ρ1).bind fun d ρ2 => match keysT k with
  | some c => .ok (.dcT true [c] [frz d]) ρ2
  | none => .stk
omit [TabC] in
theorem keysOf_frz : ∀ {ds : List D} {c : List Key}, keysOf ds = some c → frzs ds = ds
  | [], _, _ => rfl
  | d :: ds, c, h => by
    rw [keysOf] at h
    cases e1 : keyOf d with
    | none => rw [e1] at h; cases h
    | some k =>
      cases e2 : keysOf ds with
      | none => rw [e1, e2] at h; cases h
      | some ks =>
        have e3 : frz d = d := by
          unfold keyOf at e1
          split at e1
          · rfl
          · rfl
          · cases e1
        rw [frzs_cons, e3, keysOf_frz e2]
section
variable {X : Cx} {RX : RXR} {W : WX} {pos : Pos} {ek ev : Expr} {fk fv : Ev → R D}
theorem de_d1K (hk : DE X RX W ek fk) (hv : DE X RX W ev fv) : DE X RX W (.Dict [some ek] [ev] pos) (fD1K fk fv) := by
  refine pe_imp (pe_disp (pps_cons hk hv pps_nil) rfl rfl (by simp) (by simp)) fun σ H Q q => ?_
  obtain ⟨P, ρ, FE, S, q⟩ := q
  intro p hp
  have n : New P H P (upd H p (.dK [])) (fun b => b = p) := New.lst hp S.pin
  have r0 : Rl true X.K P (upd H p (.dK [])) (.dct true [] []) (.ref p) (fun b => b = p) := .dctO (F' := E_) (vs := []) upd_same rfl rfl (fun _ => rfl) (fun b z => z.elim) .nil
  have S0 := n.stt S
  have T0 := n.tmp S r0
  have t0 : Tr P H (U FE) P (upd H p (.dK [])) (fun b => U FE b ∨ b = p) := n.tr
  refine ⟨P, ρ, FE, S0, ?_⟩
  unfold fD1K at q
  cases e1 : fk ρ with
  | exc x ρ1 => simp only [e1, R.bind] at q; exact fun cls dx P' H' FE' S' t r => q cls dx P' H' FE' S' (t0.less'.trans t) r
  | stk => simp only [e1, R.bind] at q
  | ok k ρ1 =>
    simp only [e1, R.bind] at q
    intro v P1 H1 FE1 F1 S1 T1 t1
    obtain ⟨T01, d01⟩ := T0.step S0 t1
    refine ⟨P1, ρ1, FE1, S1, ?_⟩
    cases e2 : fv ρ1 with
    | exc x ρ2 => simp only [e2] at q; exact fun cls dx P' H' FE' S' t r => q cls dx P' H' FE' S' (t0.less'.trans (t1.less'.trans t)) r
    | stk => simp only [e2] at q
    | ok d ρ2 =>
      simp only [e2] at q
      intro y P2 H2 FE2 F2 S2 T2 t2
      obtain ⟨T02, d02⟩ := T01.step S1 t2
      cases ec : keyOf k with
      | none => simp only [ec] at q
      | some c =>
        simp only [ec] at q
        have h2 : H2 p = some (.dK []) := by
          cases T02.rl with
          | dctO e k n f s r => subst k; exact e
        have nd := T02.own p rfl
        have ndF : ¬ F2 p := d02 p rfl
        have S3 := S2.give fun b z => ⟨(T2.own b z).1, (T2.own b z).2.2⟩
        have rd : Rl true X.K (fun b => P2 b ∨ F2 b) H2 (frz d) y E_ := rl_frz T2.rl (fun b z => .inl z) fun b z => .inr z
        have nP3 : ¬ (P2 p ∨ F2 p) := fun z => z.elim nd.2.1 ndF
        have S4 := S3.write (o := .dK [(c, y)]) h2 .dK nP3 nd.2.2
        have t3 : Tr P H (U FE) (fun b => P2 b ∨ F2 b) H2 (fun b => U FE2 b ∨ b = p) := t0.seq ((t1.less'.trans t2.give))
        have t4 := t3.write (o := .dK [(c, y)]) (.inr rfl)
        have r4 : Rl true X.K (fun b => P2 b ∨ F2 b) (upd H2 p (.dK [(c, y)])) (.dct true [c] [frz d]) (.ref p) (fun b => b = p) :=
          .dctO (F' := E_) (vs := [y]) upd_same rfl rfl (fun _ => rfl) (fun b z => z.elim) (.cons (F1 := E_) (F2 := E_) (rl_upd rd nP3 fun z => z) .nil (fun _ z => z.elim) (fun _ z => z.elim) fun _ z => z.elim)
        refine ⟨h2, [(c, y)], by rw [keyOf_rl T1.rl ec]; rfl, by simp, ?_⟩
        exact q (.ref p) _ _ FE2 _ S4 ⟨r4, fun b z => by subst z; exact ⟨by rw [upd_same]; simp, nP3, nd.2.2⟩⟩ t4
theorem de_d1T (hu : X.A.units < cLine) (hk : DE X RX W ek fk) (hv : DE X RX W ev fv) : DE X RX W (.Dict [some ek] [ev] pos) (fD1T fk fv) := by
  refine pe_imp (pe_dispT hu (pps_cons hk hv pps_nil)) fun σ H Q q => ?_
  obtain ⟨P, ρ, FE, S, q⟩ := q
  intro p hp
  have n : New P H P (upd H p (.dT [])) (fun b => b = p) := New.lst hp S.pin
  have r0 : Rl true X.K P (upd H p (.dT [])) (.dcT true [] []) (.ref p) (fun b => b = p) := .dcTO (F' := E_) (vs := []) upd_same rfl rfl (fun _ => rfl) (fun b z => z.elim) .nil
  have S0 := n.stt S
  have T0 := n.tmp S r0
  have t0 : Tr P H (U FE) P (upd H p (.dT [])) (fun b => U FE b ∨ b = p) := n.tr
  refine ⟨P, ρ, FE, S0, ?_⟩
  unfold fD1T at q
  cases e1 : fk ρ with
  | exc x ρ1 => simp only [e1, R.bind] at q; exact fun cls dx P' H' FE' S' t r => q cls dx P' H' FE' S' (t0.less'.trans t) r
  | stk => simp only [e1, R.bind] at q
  | ok k ρ1 =>
    simp only [e1, R.bind] at q
    intro v P1 H1 FE1 F1 S1 T1 t1
    obtain ⟨T01, d01⟩ := T0.step S0 t1
    have S1' := S1.give fun b z => ⟨(T1.own b z).1, (T1.own b z).2.2⟩
    refine ⟨_, ρ1, FE1, S1', ?_⟩
    cases e2 : fv ρ1 with
    | exc x ρ2 => simp only [e2] at q; exact fun cls dx P' H' FE' S' t r => q cls dx P' H' FE' S' (t0.less'.trans (t1.give.trans t)) r
    | stk => simp only [e2] at q
    | ok d ρ2 =>
      simp only [e2] at q
      intro y P2 H2 FE2 F2 S2 T2 t2
      have T01' : Tmp X.K (fun b => P1 b ∨ F1 b) H1 FE1 (.dcT true [] []) (.ref p) (fun b => b = p) := ⟨rl_mono T01.rl (fun b z => .inl z) (fun _ _ e _ _ => e) fun _ z => z, fun b z => ⟨(T01.own b z).1, fun w => w.elim (T01.own b z).2.1 (d01 b z), (T01.own b z).2.2⟩⟩
      obtain ⟨T02, d02⟩ := T01'.step S1' t2
      cases ec : keysT k with
      | none => simp only [ec] at q
      | some c =>
        simp only [ec] at q
        have h2 : H2 p = some (.dT []) := by
          cases T02.rl with
          | dcTO e k n f s r => subst k; exact e
        have nd := T02.own p rfl
        have ndF : ¬ F2 p := d02 p rfl
        have S3 := S2.give fun b z => ⟨(T2.own b z).1, (T2.own b z).2.2⟩
        have rd : Rl true X.K (fun b => P2 b ∨ F2 b) H2 (frz d) y E_ := rl_frz T2.rl (fun b z => .inl z) fun b z => .inr z
        have nP3 : ¬ (P2 p ∨ F2 p) := fun z => z.elim nd.2.1 ndF
        have S4 := S3.write (o := .dT [(c, y)]) h2 .dT nP3 nd.2.2
        have t3 : Tr P H (U FE) (fun b => P2 b ∨ F2 b) H2 (fun b => U FE2 b ∨ b = p) := t0.seq ((t1.give.trans t2.give))
        have t4 := t3.write (o := .dT [(c, y)]) (.inr rfl)
        have r4 : Rl true X.K (fun b => P2 b ∨ F2 b) (upd H2 p (.dT [(c, y)])) (.dcT true [c] [frz d]) (.ref p) (fun b => b = p) :=
          .dcTO (F' := E_) (vs := [y]) upd_same rfl rfl (fun _ => rfl) (fun b z => z.elim) (.cons (F1 := E_) (F2 := E_) (rl_upd rd nP3 fun z => z) .nil (fun _ z => z.elim) (fun _ z => z.elim) fun _ z => z.elim)
        have rk0 : Rl true X.K (fun b => P1 b ∨ F1 b) H1 (frz k) v E_ := rl_frz T1.rl (fun b z => .inl z) fun b z => .inr z
        have rk : Rl true X.K P2 H2 (frz k) v E_ := rl_mono rk0 (fun b z => t2.mono b z) (fun b o e z => t2.frame b o e fun ⟨j, y⟩ => (S1'.fin j b y).2 ((z rfl).elim id False.elim)) fun _ z => z
        unfold keysT at ec
        split at ec
        · rename_i ds
          rw [frz_tup] at rk
          cases rk with
          | tup eb pb rb =>
            have ec' : keysOf (frzs ds) = some c := by
              rw [keysOf_frz ec]; exact ec
            rw [keysOf_rls rb ec'] at eb
            exact ⟨h2, c, _, y, rfl, eb, q (.ref p) _ _ FE2 _ S4 ⟨r4, fun b z => by subst z; exact ⟨by rw [upd_same]; simp, nP3, nd.2.2⟩⟩ t4⟩
        · cases ec
end
end Hap
namespace Hap
open PySem PySem.Spec PyProof.Rows L2
variable [TabC]
section
variable {K : PySem.W.Frag} {P : AS} {H : Hp}
omit [TabC] in
theorem rls_erase : ∀ {ds : List D} {vs : List V} {F : AS} (j : Nat), Rls true K P H ds vs F → Rls true K P H (ds.eraseIdx j) (vs.eraseIdx j) F
  | _, _, _, _, .nil => .nil
  | _, _, _, 0, .cons r rs s1 s2 dj => rls_mono rs (fun _ q => q) (fun _ _ e _ _ => e) s2
  | _, _, _, j + 1, .cons (F1 := G1) (F2 := G2) r rs s1 s2 dj => .cons (F1 := G1) (F2 := G2) r (rls_erase j rs) s1 s2 dj
end
def isL1 (o : Option (Option D)) (k : List D → R D) : R D := match o with
  | some (some (.lst true xs)) => k xs
  | _ => .stk
omit [TabC] in
theorem isL1_cases {o : Option (Option D)} {k : List D → R D} : (∃ xs, o = some (some (.lst true xs)) ∧ isL1 o k = k xs) ∨ isL1 o k = .stk := by
  unfold isL1
  split
  · exact .inl ⟨_, rfl, rfl⟩
  · exact .inr rfl
def popD (xs : List D) (i j : Nat) (ρ : Ev) : R D := match xs[j]? with
  | some d => if isImm d = true ∧ xs.length ≤ sizeLine then .ok d (ρ.set i (some (.lst true (xs.eraseIdx j)))) else .stk
  | none => .stk
def fPop0 (i : Nat) : Ev → R D := fun ρ => isL1 ρ[i]? fun xs => popD xs i (xs.length - 1) ρ
def int1 (ds : List D) (k : Int → R D) : R D := match ds with
  | [.int n] => k n
  | _ => .stk
def natR (o : Option Nat) (k : Nat → R D) : R D := match o with
  | some j => k j
  | none => .stk
def fPopA (i : Nat) (f : Ev → R (List D)) : Ev → R D := fun ρ => isL1 ρ[i]? fun _ => (f ρ).bind fun ds ρ1 => int1 ds fun n => isL1 ρ1[i]? fun xs => natR (ixN xs.length n) fun j => popD xs i j ρ1
section
variable {X : Cx} {RX : RXR} {W : WX} {P : AS} {H : Hp} {ρ : Ev} {σ : L2.St} {FE : FP}
/-- one is taken out of a slot's list -/
theorem pop_slot {xs : List D} {i j : Nat} {d : D} {ρ' : Ev} (S : Stt X.K P H ρ σ FE) (e0 : ρ[i]? = some (some (.lst true xs))) (g : popD xs i j ρ = .ok d ρ') :
    xs.length ≤ sizeLine ∧ ∃ p vs y, σ[i]? = some (some (.ref p)) ∧ H p = some (.lst vs) ∧ xs.length = vs.length ∧ vs[j]? = some y ∧ ∃ FE', Stt X.K P (upd H p (.lst (vs.eraseIdx j))) ρ' σ FE' ∧ Tmp X.K P (upd H p (.lst (vs.eraseIdx j))) FE' d y E_ ∧ Tr P H (U FE) P (upd H p (.lst (vs.eraseIdx j))) (fun b => U FE' b ∨ E_ b) := by
  unfold popD at g
  split at g
  · rename_i d0 ed
    split at g
    · rename_i imz
      obtain ⟨im, imz⟩ := imz
      cases g
      refine ⟨imz, ?_⟩
      obtain ⟨p, vs, F', ev, h1, h2, h3, h4⟩ := slot_lst S e0
      obtain ⟨y, ey, ry⟩ := rls_get h4 ed
      have nP := (S.fin i p h2).2
      have nF' : ¬ F' p := fun z => (h3 p z).2 rfl
      obtain ⟨S2, t2⟩ := slot_write (F1 := E_) (o := .lst (vs.eraseIdx j)) (d' := .lst true (xs.eraseIdx j)) S h1 .lst ev h2 (fun b z => z.elim)
        (.lstO (F' := F') upd_same (fun _ => .inl h2) (fun b z => ⟨.inl (h3 b z).1, (h3 b z).2⟩) (rls_erase j (rls_upd h4 nP nF')))
      refine ⟨p, vs, y, ev, h1, rls_len h4, ey, _, S2, ⟨rl_imm (rl_upd (F' := E_) (rl_imm ry im) nP fun z => z) im, fun _ z => z.elim⟩, ?_⟩
      exact ⟨fun b o e n => t2.frame b o e fun z => z.elim n fun w => w.elim, t2.mono, fun b z => (t2.back b z).imp id fun w => w.imp (fun u => u.elim id fun w => w.elim) id, fun b z => (t2.sub b (z.elim id fun w => w.elim)).imp (fun u => u.elim id fun w => w.elim) id, t2.alive⟩
    · cases g
  · cases g
omit [TabC] in
theorem popD_cases {xs : List D} {i j : Nat} {ρ : Ev} : (∃ d ρ', popD xs i j ρ = .ok d ρ') ∨ popD xs i j ρ = .stk := by
  unfold popD
  split
  · split
    · exact .inl ⟨_, _, rfl⟩
    · exact .inr rfl
  · exact .inr rfl
theorem de_pop0 {e : Expr} {i : Nat} (h : PE X e (tBM0 X.K "list" rPop (tVar i))) : DE X RX W e (fPop0 i) := by
  refine pe_imp h fun σ H Q q => ?_
  obtain ⟨P, ρ, FE, S, q⟩ := q
  unfold fPop0 at q
  rcases isL1_cases (o := ρ[i]?) (k := fun xs => popD xs i (xs.length - 1) ρ) with ⟨xs, e0, eq⟩ | eq
  · rw [eq] at q
    rcases popD_cases (xs := xs) (i := i) (j := xs.length - 1) (ρ := ρ) with ⟨d, ρ1, g⟩ | g
    · rw [g] at q
      obtain ⟨_, p, vs, y, ev, h1, hl, hy, FE', S2, T2, t2⟩ := pop_slot S e0 g
      refine ⟨.ref p, ev, .inl ⟨rfl, vs, .inl (.inl h1)⟩, p, vs, y, rfl, rfl, h1, by rw [← hl]; exact hy, ?_⟩
      have e1 : vs.eraseIdx (xs.length - 1) = vs.dropLast := by rw [hl]; exact PyProof.Rows.Copied.eraseIdx_last vs
      rw [e1] at S2 T2 t2
      exact q y _ _ _ _ S2 T2 t2
    · rw [g] at q; exact q.elim
  · rw [eq] at q; exact q.elim
end
def ranD (n : Nat) : List D := (List.range n).map fun i => .int ((i : Nat) : Int)
def rgC (ds : List D) (k : Nat → R D) : R D := int1 ds fun n => if 0 ≤ n ∧ n ≤ 16777216 then k n.toNat else .stk
def fRgL (f : Ev → R D) : Ev → R D := fun ρ => (f ρ).bind fun d ρ1 => rgC [d] fun n => .ok (.lst true (ranD n)) ρ1
def fRgT (f : Ev → R D) : Ev → R D := fun ρ => (f ρ).bind fun d ρ1 => rgC [d] fun n => .ok (.tup (ranD n)) ρ1
/-- a list of lists, changed at two places -/
def setN (xs : List D) (n m : Int) (d : D) : Option D := (ixN xs.length n).bind fun k => match xs[k]? with
  | some (.lst true ys) => (ixN ys.length m).map fun j => .lst true (xs.set k (.lst true (ys.set j d)))
  | _ => none
def intS3 (o : Option D) (k : Int → RS) : RS := match o with
  | some (.int n) => k n
  | _ => .stk
def lstO1 (o : Option (Option D)) (k : List D → RS) : RS := match o with
  | some (some (.lst true xs)) => k xs
  | _ => .stk
def optS (o : Option D) (k : D → RS) : RS := match o with
  | some d => k d
  | none => .stk
def fSetN (i : Nat) (f : Ev → R D) (g1 g2 : Ev → Option D) : Ev → RS := fun ρ => RS.of (f ρ) fun d ρ1 => if isImm d = true then lstO1 ρ1[i]? fun xs => intS3 (g1 ρ1) fun n => intS3 (g2 ρ1) fun m => optS (setN xs n m d) fun d' => .nx (ρ1.set i (some d')) else .stk
end Hap
namespace Hap
open PySem PySem.Spec PyProof.Rows L2 PySem.W
end Hap
namespace Hap
open PySem PySem.Spec PyProof.Rows L2
section
variable {ρ : Ev} {i : Nat} {f f' : Ev → R D} {g1 g2 : Ev → Option D} {fa : Ev → R (List D)}
@[simp] theorem ap_setN : fSetN i f g1 g2 ρ = RS.of (f ρ) fun d ρ1 => if isImm d = true then lstO1 ρ1[i]? fun xs => intS3 (g1 ρ1) fun n => intS3 (g2 ρ1) fun m => optS (setN xs n m d) fun d' => .nx (ρ1.set i (some d')) else .stk := (rfl)
@[simp] theorem lstO1_s {xs : List D} {k : List D → RS} : lstO1 (some (some (.lst true xs))) k = k xs := (rfl)
@[simp] theorem intS3_s {n : Int} {k : Int → RS} : intS3 (some (.int n)) k = k n := (rfl)
@[simp] theorem optS_s {d : D} {k : D → RS} : optS (some d) k = k d := (rfl)
@[simp] theorem ap_rgL : fRgL f ρ = (f ρ).bind fun d ρ1 => rgC [d] fun n => .ok (.lst true (ranD n)) ρ1 := (rfl)
@[simp] theorem ap_rgT : fRgT f ρ = (f ρ).bind fun d ρ1 => rgC [d] fun n => .ok (.tup (ranD n)) ρ1 := (rfl)
@[simp] theorem ap_d1K : fD1K f f' ρ = (f ρ).bind fun k ρ1 => (f' ρ1).bind fun d ρ2 => match keyOf k with
  | some c => .ok (.dct true [c] [frz d]) ρ2
  | none => .stk := (rfl)
@[simp] theorem ap_d1T : fD1T f f' ρ = (f ρ).bind fun k ρ1 => (f' ρ1).bind fun d ρ2 => match keysT k with
  | some c => .ok (.dcT true [c] [frz d]) ρ2
  | none => .stk := (rfl)
@[simp] theorem ap_pop0 : fPop0 i ρ = isL1 ρ[i]? fun xs => popD xs i (xs.length - 1) ρ := (rfl)
@[simp] theorem ap_popA : fPopA i fa ρ = isL1 ρ[i]? fun _ => (fa ρ).bind fun ds ρ1 => int1 ds fun n => isL1 ρ1[i]? fun xs => natR (ixN xs.length n) fun j => popD xs i j ρ1 := (rfl)
@[simp] theorem isL1_s {xs : List D} {k : List D → R D} : isL1 (some (some (.lst true xs))) k = k xs := (rfl)
@[simp] theorem int1_s {n : Int} {k : Int → R D} : int1 [.int n] k = k n := (rfl)
end
end Hap
namespace Hap
open PySem PySem.Spec PyProof.Rows L2
variable [TabC]
def two1 (ds : List D) (k : D → D → RS) : RS := match ds with
  | [d, e] => k d e
  | _ => .stk
def RSofL (r : R (List D)) (k : List D → Ev → RS) : RS := match r with
  | .ok ds ρ => k ds ρ
  | .exc x ρ => .exc x ρ
  | .stk => .stk
def fPar (i j : Nat) (f : Ev → R (List D)) : Ev → RS := fun ρ => RSofL (f ρ) fun ds ρ1 => two1 ds fun d e => .nx ((ρ1.set i (some d)).set j (some e))
section
variable {ρ : Ev} {i j : Nat} {f : Ev → R (List D)}
omit [TabC]
@[simp] theorem ap_par : fPar i j f ρ = RSofL (f ρ) fun ds ρ1 => two1 ds fun d e => .nx ((ρ1.set i (some d)).set j (some e)) := (rfl)
@[simp] theorem ofL_ok {ds : List D} {k : List D → Ev → RS} : RSofL (.ok ds ρ) k = k ds ρ := (rfl)
@[simp] theorem two1_s {d e : D} {k : D → D → RS} : two1 [d, e] k = k d e := (rfl)
end
end Hap
namespace Hap
open PySem PySem.Spec PyProof.Rows L2
variable [TabC]
section
variable {X : Cx} {RX : RXR} {W : WX} {tg e : Expr} {x : Str} {p pos : Pos} {a : Addr} {ws : List Str}
def fItC (ws : List Str) : Ev → R (List D) := fun ρ => .ok (ws.map .str) ρ
end
section
variable {ρ : Ev} {ws : List Str} {x : Str}
omit [TabC]
@[simp] theorem ap_itC : fItC ws ρ = .ok (ws.map .str) ρ := (rfl)
end
end Hap
namespace Hap
open PySem PySem.Spec PyProof.Rows L2 PySem.W
end Hap
namespace Hap
open PySem PySem.Spec PyProof.Rows L2
variable [TabC]
def noX (r : RS) : RS := match r with
  | .exc _ _ => .stk
  | r => r
def fForK (i : Nat) (t : D → Ev → Option Ev) (g : Ev → RS) : Ev → RS := fun ρ => match ρ[i]? with
  | some (some (.dct o ks xs)) => noX (loopS (stepS t g) (ks.map keyD) (ρ.set i (some (frz (.dct o ks xs)))))
  | _ => .stk
def lockE (D : Ends) (d : Addr) (od : Obj) (u : HO) : Ends :=
  { nx := fun σ' H' => H' d = some (HO.frz od u) ∧ D.nx σ' (upd H' d u),
    rt := fun v H' => H' d = some (HO.frz od u) ∧ D.rt v (upd H' d u),
    bk := fun σ' H' => H' d = some (HO.frz od u) ∧ D.bk σ' (upd H' d u),
    ct := fun σ' H' => H' d = some (HO.frz od u) ∧ D.ct σ' (upd H' d u) }
section
variable {ρ : Ev} {i : Nat} {t : D → Ev → Option Ev} {g : Ev → RS}
def forKR (o : Option (Option D)) (i : Nat) (t : D → Ev → Option Ev) (g : Ev → RS) (ρ : Ev) : RS := match o with
  | some (some (.dct o ks xs)) => noX (loopS (stepS t g) (ks.map keyD) (ρ.set i (some (frz (.dct o ks xs)))))
  | _ => .stk
omit [TabC] in
@[simp] theorem ap_forK : fForK i t g ρ = forKR ρ[i]? i t g ρ := by unfold fForK forKR; rfl
omit [TabC] in
@[simp] theorem forKR_s {o : Bool} {ks : List Key} {xs : List D} : forKR (some (some (.dct o ks xs))) i t g ρ = noX (loopS (stepS t g) (ks.map keyD) (ρ.set i (some (.dct false ks (frzs xs))))) := (rfl)
omit [TabC] in
@[simp] theorem noX_nx {ρ : Ev} : noX (.nx ρ) = .nx ρ := (rfl)
omit [TabC] in
@[simp] theorem noX_rt {ρ : Ev} {d : D} : noX (.rt d ρ) = .rt d ρ := (rfl)
end
end Hap
namespace Hap
open PySem PySem.Spec PyProof.Rows L2
variable [TabC]
def gTL (n : Nat) (u : List D → Ev → Option Ev) : D → Ev → Option Ev := fun d ρ => match d with
  | .lst false ds => if ds.length = n then u ds ρ else none
  | _ => none
section
variable {X : Cx} {RX : RXR} {W : WX} {kp : List Nat}
theorem dg_unl {es : List Expr} {n k : Nat} {pos : Pos} {u : List D → Ev → Option Ev} (hc : X.calm = true) (h : DGs X kp es u) (hn : (assignEach es X.env).length = n := by rfl) (hst : (assignEach es X.env).findIdx? (·.1) = none := by rfl) :
    DG X kp (.Tuple es k pos) (gTL n u) := by
  refine pg_imp (pg_unl hc h hn hst) fun v σ H Q q => ?_
  obtain ⟨P, ρ, FE, d, F, S, T, q⟩ := q
  unfold gTL at q
  split at q
  · rename_i o ds e0
    split at e0
    · rename_i ds'
      split at e0
      · rename_i hl
        obtain ⟨rl, own⟩ := T
        cases rl with
        | lstI e p i rs =>
          refine ⟨_, _, rfl, .inl (.inl e), by rw [← rls_len rs]; exact hl, P, ρ, FE, ds', F, S, ⟨rls_mono rs (fun _ z => z) (fun _ _ e _ _ => e) fun _ z => z.elim, own⟩, ?_⟩
          rw [e0]; exact q
      · cases e0
    · cases e0
  · exact q.elim
end
section
variable {ρ : Ev}
omit [TabC] in
@[simp] theorem ap_gTL {n u} {ds : List D} : gTL n u (.lst false ds) ρ = if ds.length = n then u ds ρ else none := (rfl)
end
end Hap
namespace Hap
open PySem PySem.Spec PyProof.Rows L2
end Hap
namespace Hap
open PySem PySem.Spec PyProof.Rows L2
variable [TabC]
def modP (g : List D → Option (List D)) : List Int → D → Option D
  | [], d => (match d with
    | .lst true xs => (g xs).map (.lst true)
    | _ => none)
  | j :: js, d => (match d with
    | .tup ds => (ixN ds.length j).bind fun k => (ds[k]?).bind fun d0 => (modP g js d0).map fun d' => .tup (ds.set k d')
    | .lst true ds => (ixN ds.length j).bind fun k => (ds[k]?).bind fun d0 => (modP g js d0).map fun d' => .lst true (ds.set k d')
    | _ => none)
def gRev (xs : List D) : Option (List D) := some xs.reverse
def setR (o : Option D) (i : Nat) (ρ : Ev) : RS := match o with
  | some d2 => .nx (ρ.set i (some d2))
  | none => .stk
def setM (g : List D → Option (List D)) (js : List Int) (o : Option (Option D)) (i : Nat) (ρ : Ev) : RS := match o with
  | some (some d) => setR (modP g js d) i ρ
  | _ => .stk
def gEmp (xs : List D) : Option (List D) := if xs.length < sizeLine then some (xs ++ [.lst false []]) else none
/-- x[..].reverse() -/
def fRevP (i : Nat) (js : List Int) : Ev → RS := fun ρ => setM gRev js ρ[i]? i ρ
/-- x[..].append([]) -/
def fEmpP (i : Nat) (js : List Int) : Ev → RS := fun ρ => setM gEmp js ρ[i]? i ρ
section
variable {ρ : Ev} {i : Nat} {js : List Int} {d : D} {g : List D → Option (List D)}
omit [TabC]
@[simp] theorem ap_revP : fRevP i js ρ = setM gRev js ρ[i]? i ρ := (rfl)
@[simp] theorem ap_empP : fEmpP i js ρ = setM gEmp js ρ[i]? i ρ := (rfl)
@[simp] theorem setM_s : setM g js (some (some d)) i ρ = setR (modP g js d) i ρ := (rfl)
@[simp] theorem setR_s : setR (some d) i ρ = .nx (ρ.set i (some d)) := (rfl)
end
end Hap
namespace Hap
open PySem PySem.Spec PyProof.Rows L2
variable [TabC]
def fCallIOM (j : Nat) (sem : Fn) (f1 : Ev → R D) : Ev → R D := fun ρ => match ρ[j]? with
  | some (some _) => (f1 ρ).bind fun d1 ρ1 => match ρ1[j]? with
    | some (some d0) => callR (sem [d0, d1]) ρ1 fun outs => ρ1.set j (hd0 outs)
    | _ => .stk
  | _ => .stk
section
variable {ρ : Ev} {i : Nat} {f : Ev → R D} {sem : Fn}
def callM (o : Option (Option D)) (j : Nat) (sem : Fn) (d1 : D) (ρ1 : Ev) : R D := match o with
  | some (some d0) => callR (sem [d0, d1]) ρ1 fun outs => ρ1.set j (hd0 outs)
  | _ => .stk
omit [TabC] in
@[simp] theorem ap_callIOM : fCallIOM i sem f ρ = isS ρ[i]? fun _ => (f ρ).bind fun d1 ρ1 => callM ρ1[i]? i sem d1 ρ1 := by unfold fCallIOM isS callM; rfl
omit [TabC] in
@[simp] theorem callM_s {d0 d1 : D} : callM (some (some d0)) i sem d1 ρ = callR (sem [d0, d1]) ρ fun outs => ρ.set i (hd0 outs) := (rfl)
end
end Hap
namespace Hap
open PySem PySem.Spec PyProof.Rows L2
variable [TabC]
def rtInt (r : RF) (k : Int → Ev → RS) : RS := match r with
  | .rt (.int n) outs => k n outs
  | _ => .stk
def slD (o : Option (Option D)) (k : D → RS) : RS := match o with
  | some (some d) => k d
  | _ => .stk
def fSetNC (i : Nat) (f : Ev → R D) (g1 : Ev → Option D) (j : Nat) (sem : Fn) (g3 : Ev → Option D) : Ev → RS := fun ρ => if i = j then .stk else
  RS.of (f ρ) fun d ρ1 => if isImm d = true then lstO1 ρ1[i]? fun xs => intS3 (g1 ρ1) fun n => slD ρ1[j]? fun d0 => intS3 (g3 ρ1) fun m => rtInt (sem [d0, .int m]) fun m2 outs => optS (setN xs n m2 d) fun d' => .nx ((ρ1.set j (hd0 outs)).set i (some d')) else .stk
end Hap
namespace Hap
open PySem PySem.Spec PyProof.Rows L2
variable [TabC]
def atN (xs : List D) (n : Int) (k : Nat → List D → RS) : RS := match ixN xs.length n with
  | some j => (match xs[j]? with
    | some (.lst true ys) => k j ys
    | _ => .stk)
  | none => .stk
def oneI (ds : List D) (k : D → RS) : RS := match ds with
  | [d] => if isImm d = true then k d else .stk
  | _ => .stk
def fAppN (i : Nat) (g1 : Ev → Option D) (f : Ev → R (List D)) : Ev → RS := fun ρ => lstO1 ρ[i]? fun xs => intS3 (g1 ρ) fun n => atN xs n fun j ys =>
  RS.of (f (ρ.set i none)) fun ds ρ1 => oneI ds fun d => if ys.length < sizeLine then .nx (ρ1.set i (some (.lst true (xs.set j (.lst true (ys ++ [d])))))) else .stk
section
variable {ρ : Ev} {i : Nat} {g1 : Ev → Option D} {f : Ev → R (List D)}
omit [TabC]
@[simp] theorem ap_appN : fAppN i g1 f ρ = lstO1 ρ[i]? fun xs => intS3 (g1 ρ) fun n => atN xs n fun j ys => RS.of (f (ρ.set i none)) fun ds ρ1 => oneI ds fun d => if ys.length < sizeLine then .nx (ρ1.set i (some (.lst true (xs.set j (.lst true (ys ++ [d])))))) else .stk := (rfl)
@[simp] theorem oneI_s {d : D} {k : D → RS} : oneI [d] k = if isImm d = true then k d else .stk := (rfl)
@[simp] theorem ap_setNC {j : Nat} {fv : Ev → R D} {g3 : Ev → Option D} {sem : Fn} : fSetNC i fv g1 j sem g3 ρ = if i = j then .stk else RS.of (fv ρ) fun d ρ1 => if isImm d = true then lstO1 ρ1[i]? fun xs => intS3 (g1 ρ1) fun n => slD ρ1[j]? fun d0 => intS3 (g3 ρ1) fun m => rtInt (sem [d0, .int m]) fun m2 outs => optS (setN xs n m2 d) fun d' => .nx ((ρ1.set j (hd0 outs)).set i (some d')) else .stk := (rfl)
end
end Hap
namespace Hap
open PySem PySem.Spec PyProof.Rows L2
variable [TabC]
def gAddT (d e : D) : Option D := match d, e with
  | .tup xs, .tup ys => if (isImms xs = true ∧ isImms ys = true) ∧ xs.length + ys.length ≤ sizeLine then some (.tup (xs ++ ys)) else none
  | _, _ => none
theorem vAddT {K : PySem.W.Frag} : VOp2 K (rCatA K) gAddT := by
  intro P H d e v w x Q pin r1 r2 g h
  unfold gAddT at g
  split at g
  · rename_i xs ys
    split at g
    · rename_i c
      cases g
      obtain ⟨p, vs, rfl, e1, _, rs1⟩ := tup_read r1
      obtain ⟨q, ws, rfl, e2, _, rs2⟩ := tup_read r2
      have l1 := rls_len rs1
      have l2 := rls_len rs2
      refine ⟨p, q, vs, ws, rfl, rfl, .inl (.inl e1), .inl (.inl e2), by omega, fun z => ?_, fun z z2 => ?_, fun z z2 a ha => ?_⟩
      · have : xs = [] := List.eq_nil_of_length_eq_zero (by rw [l1, z]; rfl)
        subst this
        rw [List.nil_append] at h
        exact h _ P H E_ New.refl (rl_imm r2 (by simpa only [isImm] using c.1.2 : isImm (.tup ys) = true))
      · have : ys = [] := List.eq_nil_of_length_eq_zero (by rw [l2, z2]; rfl)
        subst this
        rw [List.append_nil] at h
        exact h _ P H E_ New.refl (rl_imm r1 (by simpa only [isImm] using c.1.1))
      · obtain ⟨n, r⟩ := new_tup ha (isImms_app c.1.1 c.1.2) (rls_app rs1 rs2)
        exact h _ _ _ _ n r
    · cases g
  · cases g
omit [TabC] in
theorem add_tt {xs ys : List D} : gAddT (.tup xs) (.tup ys) = if (isImms xs = true ∧ isImms ys = true) ∧ xs.length + ys.length ≤ sizeLine then some (.tup (xs ++ ys)) else none := rfl
end Hap
namespace Hap
open PySem PySem.Spec PyProof.Rows L2
def gPart (ps : List (Str × List Int)) (j : Int) (d : D) : Option D := match d with
  | .str x => (ps.lookup x).bind fun vs => (atI vs j).map D.int
  | _ => none
variable [TabC]
section
variable {ps : List (Str × List Int)} {j : Int} {x : Str}
omit [TabC]
@[simp] theorem part_s : gPart ps j (.str x) = (ps.lookup x).bind fun vs => (atI vs j).map D.int := (rfl)
end
end Hap
namespace Hap
open PySem PySem.Spec PyProof.Rows L2
variable [TabC]
def putO (o : Option (Option D)) (i : Nat) (e d : D) (ρ : Ev) : RS := match o with
  | some (some (.dcT true ks xs)) => (match keysT e with
    | some c => if memK c ks = false ∧ xs.length < sizeLine then .nx (ρ.set i (some (.dcT true (ks ++ [c]) (xs ++ [d])))) else .stk
    | none => .stk)
  | _ => .stk
def fPutO (i : Nat) (f k : Ev → R D) : Ev → RS := fun ρ => RS.of (f ρ) fun d ρ1 => isSS ρ1[i]? (RS.of (k ρ1) fun e ρ2 => putO ρ2[i]? i e d ρ2)
def posK {κ : Type} [DecidableEq κ] : List κ → κ → Option Nat
  | [], _ => none
  | k' :: ks, k => if k' = k then some 0 else (posK ks k).map (· + 1)
def dTO1 (o : Option (Option D)) (k : List (List Key) → List D → RS) : RS := match o with
  | some (some (.dcT true ks xs)) => k ks xs
  | _ => .stk
def atK (ks : List (List Key)) (xs : List D) (o : Option D) (k : Nat → List D → RS) : RS := match o with
  | some e => (match keysT e with
    | some c => (match posK ks c with
      | some j => (match xs[j]? with
        | some (.lst true ys) => k j ys
        | _ => .stk)
      | none => .stk)
    | none => .stk)
  | none => .stk
def fAppD (i : Nat) (g1 : Ev → Option D) (f : Ev → R (List D)) : Ev → RS := fun ρ => dTO1 ρ[i]? fun ks xs => atK ks xs (g1 ρ) fun j ys =>
  RS.of (f (ρ.set i none)) fun ds ρ1 => oneI ds fun d => if ys.length < sizeLine then .nx (ρ1.set i (some (.dcT true ks (xs.set j (.lst true (ys ++ [d])))))) else .stk
section
variable {ρ : Ev} {i : Nat} {g1 : Ev → Option D} {f : Ev → R (List D)} {f' k' : Ev → R D}
omit [TabC]
@[simp] theorem ap_putO : fPutO i f' k' ρ = RS.of (f' ρ) fun d ρ1 => isSS ρ1[i]? (RS.of (k' ρ1) fun e ρ2 => putO ρ2[i]? i e d ρ2) := (rfl)
@[simp] theorem ap_appD : fAppD i g1 f ρ = dTO1 ρ[i]? fun ks xs => atK ks xs (g1 ρ) fun j ys => RS.of (f (ρ.set i none)) fun ds ρ1 => oneI ds fun d => if ys.length < sizeLine then .nx (ρ1.set i (some (.dcT true ks (xs.set j (.lst true (ys ++ [d])))))) else .stk := (rfl)
@[simp] theorem dTO1_s {ks : List (List Key)} {xs : List D} {k : List (List Key) → List D → RS} : dTO1 (some (some (.dcT true ks xs))) k = k ks xs := (rfl)
end
abbrev rLenTR : List V → Hp → VK → Prop := fun xs H Q => ∃ (a : Addr) (kvs : List (List Key × V)), xs = [.ref a] ∧ Rd H a (.dT kvs) ∧ Q (.int ((kvs.length : Nat) : Int)) H
omit [TabC] in
theorem call_lenT {X : Cx} : CallR X (.builtin "len") rLenTR := by
  intro pins s σ H xs us Q I r h
  obtain ⟨p, kvs, rfl, hp, q⟩ := h
  obtain ⟨u, rfl, rx⟩ := vals1 r
  obtain rfl : u = .ref p := rx
  obtain ⟨z, hd, ys, rel, dd⟩ := dt_rd I.hok hp
  have hl : kvs.length = ys.length := Paired.length rel
  refine call_len_dictH hd dd (by rw [← hl]; rw [sizeLine_eq] at z; omega) ?_
  rw [← hl]
  exact ⟨.int ((kvs.length : Nat) : Int), H, I.tok _, ⟨_, rfl⟩, q⟩
def gLenT (ds : List D) : Option D := match ds with
  | [.dcT _ ks _] => some (.int ks.length)
  | _ => none
theorem vLenT {K : PySem.W.Frag} : VOpN K rLenTR gLenT := by
  intro P H ds vs x Q pin rs g h
  unfold gLenT at g
  split at g
  · obtain ⟨v, rfl, r⟩ := rls1 rs
    cases g
    obtain ⟨p, vs, rfl, e, l, r2⟩ := dcT_read r
    refine ⟨p, _, rfl, e, ?_⟩
    rw [List.length_zip, ← l, Nat.min_self]
    exact h _ P H E_ New.refl .int
  · cases g
omit [TabC] in
@[simp] theorem lenT_d {o : Bool} {ks : List (List Key)} {xs : List D} : gLenT [.dcT o ks xs] = some (.int ks.length) := (rfl)
end Hap
namespace Hap
open PySem PySem.Spec PyProof.Rows L2
variable [TabC]
def keyT (k : List Key) : D := .tup (k.map keyD)
omit [TabC] in
theorem keysT_rl {z : Bool} {K : PySem.W.Frag} {P : AS} {H : Hp} {F : AS} : ∀ (k : List Key), Rls z K P H (k.map keyD) (k.map kV) F
  | [] => .nil
  | k :: ks => .cons (F1 := E_) (F2 := E_) keyD_rl (keysT_rl ks) (fun _ z => z.elim) (fun _ z => z.elim) fun _ z => z.elim
def iKeyT (i : Nat) : Ev → R (List D) := fun ρ => match ρ[i]? with
  | some (some (.dcT false ks _)) => .ok (ks.map keyT) ρ
  | _ => .stk
/-- the dict at slot i is locked -/
def LkdT (i : Nat) (σ : L2.St) (H : Hp) : Prop := ∃ p o kvs, σ[i]? = some (some (.ref p)) ∧ H p = some (.frz o (.dT kvs))
def tILT (K : PySem.W.Frag) (RX : RXR) (W : WX) (i : Nat) : TI := fun σ H Q => tI K RX W (iKeyT i) σ H Q ∧ LkdT i σ H
theorem walks_keysT {K : PySem.W.Frag} {P0 : AS} {H0 : Hp} {p : Addr} {o : Obj} {ks : List (List Key)} {vs : List V} (e : H0 p = some (.frz o (.dT (ks.zip vs)))) (hp : P0 p) (l : ks.length = vs.length) : Walks K (Itkt p o (ks.zip vs)) P0 H0 (ks.map keyT) where
  go := fun P H i d hT hP hH hd => by
    rw [List.getElem?_map] at hd
    cases hk : ks[i]? with
    | none => rw [hk] at hd; cases hd
    | some k =>
      rw [hk] at hd; cases hd
      have hi := (List.getElem?_eq_some_iff.mp hk).1
      have hiv : i < vs.length := by omega
      have hz : (ks.zip vs)[i]? = some (k, vs[i]) := by
        rw [List.getElem?_zip_eq_some]
        exact ⟨hk, List.getElem?_eq_getElem hiv⟩
      refine ⟨⟨hH _ _ hp e nt_frz, by rw [List.length_zip]; omega⟩, fun x H3 y => ?_⟩
      obtain ⟨rfl, k', v', q, e1, rfl, eq⟩ := y
      rw [hz] at e1
      cases e1
      exact ⟨P, New.refl, .tup eq (hT.2 q (by rw [eq]; exact .inl ⟨_, rfl⟩)) (keysT_rl k)⟩
  stop := fun H hH => ⟨hH _ _ hp e nt_frz, by rw [List.length_zip, List.length_map, l, Nat.min_self]; exact Nat.le_refl _⟩
section
variable {X : Cx} {RX : RXR} {W : WX} {tg e : Expr} {i : Nat}
theorem di_keysLT (h : PE X e (tVar i)) : PI X tg e (tILT X.K RX W i) := by
  refine pi_imp (pi_keys h) fun σ H Q q => ?_
  obtain ⟨⟨P, ρ, FE, S, q⟩, p, o, kvs, ev, eh⟩ := q
  unfold iKeyT at q
  split at q
  · rename_i ks xs e0
    split at e0
    · rename_i ks' xs' e1
      cases e0
      obtain ⟨v, ev', r⟩ := S.rel i _ e1
      rw [ev] at ev'; cases ev'
      cases r with
      | dcTI e k l hp im rs =>
        rcases e with e | ⟨o', e⟩
        · rw [eh] at e; cases e
        · rw [eh] at e; cases e
          subst k
          refine ⟨_, ev, p, o, rfl, .inr ⟨_, eh, q _ P H FE S Tr.refl (walks_keysT eh hp l)⟩⟩
    · cases e0
  · rename_i x ρ' e0
    split at e0 <;> cases e0
  · exact q.elim
/-- a comprehension over a dict's keys: locked on the way -/
theorem de_lcKT {t : D → Ev → Option Ev} {c : Ev → R Bool} {f : Ev → R D} {kp vs : List Nat} (hkp : kp = (List.range X.N.length).filter fun j => decide (j ∉ vs))
    (h : PE X e (tLc (tILT X.K RX W i) (tG X.K kp t) (tT X.K RX (fun _ _ _ _ => False) c) (tE X.K RX (fun _ _ _ _ => False) f) vs)) : DE X RX W e (fLc (iKeyT i) t c f vs) := by
  refine ⟨fun pins s σ H Q I q => ?_⟩
  obtain ⟨P, ρ, FE, S, q⟩ := q
  have run : ∀ (H1 : Hp) (Q1 : VK), tE X.K RX W (fLc (iKeyT i) t c f vs) σ H1 Q1 → LkdT i σ H1 → tLc (tILT X.K RX W i) (tG X.K kp t) (tT X.K RX (fun _ _ _ _ => False) c) (tE X.K RX (fun _ _ _ _ => False) f) vs σ H1 Q1 := fun H1 Q1 q1 lk => ⟨lc_ok hkp I.len q1, lk⟩
  -- the dict
  have look : (∃ ks xs, ρ[i]? = some (some (.dcT false ks xs))) ∨ fLc (iKeyT i) t c f vs ρ = .stk := by
    unfold fLc iKeyT
    split
    · rename_i ks xs e0; exact .inl ⟨ks, xs, e0⟩
    · exact .inr rfl
  rcases look with ⟨ks, xs, e0⟩ | e0
  · obtain ⟨v, ev, r⟩ := S.rel i _ e0
    cases r with
    | dcTI e k l hp im rs =>
      rename_i p kvs vs'
      rcases e with e | ⟨o, e⟩
      · refine (pe_lock h).run pins s σ H Q I ⟨p, _, e, trivial, fun od => ?_⟩
        have l1 : Lk H (upd H p (.frz od (.dT kvs))) p := ⟨fun b hb => upd_ne hb, fun u hu => (by
          rcases hu with hu | ⟨o', hu⟩
          · rw [e] at hu; cases hu
          · rw [e] at hu; cases hu), fun u hu => (by
          rcases hu with hu | ⟨o', hu⟩
          · rw [e] at hu; cases hu; exact .inr ⟨od, upd_same⟩
          · rw [e] at hu; cases hu), by rw [upd_same]; simp, Or.inr ⟨kvs, .inl e⟩⟩
        have S1 := S.lk l1 hp
        refine run _ _ ⟨P, ρ, FE, S1, ?_⟩ ⟨p, od, kvs, ev, upd_same⟩
        cases ef : fLc (iKeyT i) t c f vs ρ with
        | stk => rw [ef] at q; exact q.elim
        | exc x ρ' =>
          exfalso
          unfold fLc iKeyT at ef
          rw [e0] at ef
          simp only [R.bind] at ef
          split at ef
          · split at ef <;> cases ef
          · cases ef
        | ok d ρ' =>
          rw [ef] at q
          simp only at q ⊢
          intro v P' H' FE' F S' T' t'
          have pP' : P' p := t'.mono p hp
          have eH' : H' p = some (.frz od (.dT kvs)) := t'.frame p _ upd_same (fun ⟨j, z⟩ => (S1.fin j p z).2 hp) nt_frz
          have l2 : Lk H' (upd H' p (.dT kvs)) p := ⟨fun b hb => upd_ne hb, fun u hu => (by
            rcases hu with hu | ⟨o', hu⟩
            · rw [eH'] at hu; cases hu
            · rw [eH'] at hu; cases hu), fun u hu => (by
            rcases hu with hu | ⟨o', hu⟩
            · rw [eH'] at hu; cases hu
            · rw [eH'] at hu; cases hu; exact .inl upd_same), by rw [upd_same]; simp, Or.inr ⟨kvs, .inr ⟨od, eH'⟩⟩⟩
          refine ⟨eH', q v P' _ FE' F (S'.lk l2 pP') ⟨rl_lk l2 T'.rl fun b z cz => (T'.own b z).2.1 (by rw [cz]; exact pP'), fun b z => ?_⟩ ?_⟩
          · obtain ⟨o1, o2, o3⟩ := T'.own b z
            refine ⟨?_, o2, o3⟩
            by_cases cz : b = p
            · subst cz; rw [upd_same]; simp
            · rw [upd_ne cz]; exact o1
          · refine ⟨fun b u eb nu nt => ?_, t'.mono, fun b z => (t'.back b z).imp id (Or.imp id fun w => ?_), fun b z => (t'.sub b z).imp id fun w => ?_, fun b z => ?_⟩
            · by_cases cz : b = p
              · subst cz; rw [e] at eb; cases eb; exact upd_same
              · rw [upd_ne cz]; exact t'.frame b u (by rw [upd_ne cz]; exact eb) nu nt
            · by_cases cz : b = p
              · subst cz; rw [upd_same] at w; cases w
              · rw [upd_ne cz] at w; exact w
            · by_cases cz : b = p
              · subst cz; rw [upd_same] at w; cases w
              · rw [upd_ne cz] at w; exact w
            · by_cases cz : b = p
              · subst cz; rw [upd_same]; simp
              · rw [upd_ne cz]; exact t'.alive b (by rw [upd_ne cz]; exact z)
      · exact h.run pins s σ H Q I (run H Q ⟨P, ρ, FE, S, q⟩ ⟨p, o, kvs, ev, e⟩)
  · rw [e0] at q; exact q.elim
end
section
variable {ρ : Ev} {i : Nat}
def keyRT (o : Option (Option D)) (ρ : Ev) : R (List D) := match o with
  | some (some (.dcT false ks _)) => .ok (ks.map keyT) ρ
  | _ => .stk
omit [TabC] in
@[simp] theorem ap_keyT : iKeyT i ρ = keyRT ρ[i]? ρ := by unfold iKeyT keyRT; rfl
omit [TabC] in
@[simp] theorem keyRT_s {ks : List (List Key)} {xs : List D} : keyRT (some (some (.dcT false ks xs))) ρ = .ok (ks.map keyT) ρ := (rfl)
end
def fForKT (i : Nat) (t : D → Ev → Option Ev) (g : Ev → RS) : Ev → RS := fun ρ => match ρ[i]? with
  | some (some (.dcT o ks xs)) => noX (loopS (stepS t g) (ks.map keyT) (ρ.set i (some (frz (.dcT o ks xs)))))
  | _ => .stk
omit [TabC] in
theorem lk_onT {H : Hp} {p : Addr} {kvs : List (List Key × V)} {od : Obj} (e : H p = some (.dT kvs)) : Lk H (upd H p (.frz od (.dT kvs))) p := ⟨fun b hb => upd_ne hb, fun u hu => (by
    rcases hu with hu | ⟨o', hu⟩
    · rw [e] at hu; cases hu
    · rw [e] at hu; cases hu), fun u hu => (by
    rcases hu with hu | ⟨o', hu⟩
    · rw [e] at hu; cases hu; exact .inr ⟨od, upd_same⟩
    · rw [e] at hu; cases hu), by rw [upd_same]; simp, Or.inr ⟨kvs, .inl e⟩⟩
omit [TabC] in
theorem lk_offT {H' : Hp} {p : Addr} {kvs : List (List Key × V)} {od : Obj} (eH' : H' p = some (.frz od (.dT kvs))) : Lk H' (upd H' p (.dT kvs)) p := ⟨fun b hb => upd_ne hb, fun u hu => (by
    rcases hu with hu | ⟨o', hu⟩
    · rw [eH'] at hu; cases hu
    · rw [eH'] at hu; cases hu), fun u hu => (by
    rcases hu with hu | ⟨o', hu⟩
    · rw [eH'] at hu; cases hu
    · rw [eH'] at hu; cases hu; exact .inl upd_same), by rw [upd_same]; simp, Or.inr ⟨kvs, .inr ⟨od, eH'⟩⟩⟩
omit [TabC] in
theorem tr_unlockT {P P' : AS} {H H' : Hp} {U U' : AS} {p : Addr} {kvs : List (List Key × V)} {od : Obj} (e : H p = some (.dT kvs)) (hp : P p) (t' : Tr P (upd H p (.frz od (.dT kvs))) U P' H' U') : Tr P H U P' (upd H' p (.dT kvs)) U' := by
  refine ⟨fun b u eb nu nt => ?_, t'.mono, fun b z => (t'.back b z).imp id (Or.imp id fun w => ?_), fun b z => (t'.sub b z).imp id fun w => ?_, fun b z => ?_⟩
  · by_cases cz : b = p
    · subst cz; rw [e] at eb; cases eb; exact upd_same
    · rw [upd_ne cz]; exact t'.frame b u (by rw [upd_ne cz]; exact eb) nu nt
  · by_cases cz : b = p
    · subst cz; rw [upd_same] at w; cases w
    · rw [upd_ne cz] at w; exact w
  · by_cases cz : b = p
    · subst cz; rw [upd_same] at w; cases w
    · rw [upd_ne cz] at w; exact w
  · by_cases cz : b = p
    · subst cz; rw [upd_same]; simp
    · rw [upd_ne cz]; exact t'.alive b (by rw [upd_ne cz]; exact z)
theorem PoS.lockedT {K : PySem.W.Frag} {RX : RXR} {W : WX} {kp : List Nat} {D : Ends} {P : AS} {σ : L2.St} {H : Hp} {FE : FP} {r : RS} {p : Addr} {kvs : List (List Key × V)} {od : Obj} (e : H p = some (.dT kvs)) (hp : P p) (hU : ¬ U FE p)
    (q : PoS K RX W kp D P σ H FE (noX r)) : PoS K RX W kp (lockE D p od (.dT kvs)) P σ (upd H p (.frz od (.dT kvs))) FE r := by
  have fr : ∀ {P' : AS} {H' : Hp} {U' : AS}, Tr P (upd H p (.frz od (.dT kvs))) (U FE) P' H' U' → H' p = some (.frz od (.dT kvs)) := fun t' => t'.frame p _ upd_same hU nt_frz
  cases r with
  | nx ρ' => exact fun σ' P' H' FE' S' t' k' => ⟨fr t', q σ' P' _ FE' (S'.lk (lk_offT (fr t')) (t'.mono p hp)) (tr_unlockT e hp t') k'⟩
  | bk ρ' => exact fun σ' P' H' FE' S' t' k' => ⟨fr t', q σ' P' _ FE' (S'.lk (lk_offT (fr t')) (t'.mono p hp)) (tr_unlockT e hp t') k'⟩
  | ct ρ' => exact fun σ' P' H' FE' S' t' k' => ⟨fr t', q σ' P' _ FE' (S'.lk (lk_offT (fr t')) (t'.mono p hp)) (tr_unlockT e hp t') k'⟩
  | rt d ρ' =>
    refine fun v σ' P' H' FE' F S' T' t' k' => ⟨fr t', ?_⟩
    have l2 := lk_offT (fr t')
    refine q v σ' P' _ FE' F (S'.lk l2 (t'.mono p hp)) ⟨rl_lk l2 T'.rl fun b z cz => (T'.own b z).2.1 (by rw [cz]; exact t'.mono p hp), fun b z => ?_⟩ (tr_unlockT e hp t') k'
    obtain ⟨o1, o2, o3⟩ := T'.own b z
    refine ⟨?_, o2, o3⟩
    by_cases cz : b = p
    · subst cz; rw [upd_same]; simp
    · rw [upd_ne cz]; exact o1
  | exc x ρ' => exact q.elim
  | stk => exact q.elim
section
variable {X : Cx} {RX : RXR} {W : WX} {tg : Expr}
theorem ds_forKT {kp : List Nat} {x : Str} {i : Nat} {body : List Stmt} {t : D → Ev → Option Ev} {g : Ev → RS} {pos p2 : Pos} (hp : PassesOwn (model X.prog X.w) X.A X.env X.xe) (hc : X.calm = true)
    (h : PE X (.Name x p2) (tVar i)) (hg : DG X kp tg t) (hb : DSs X RX W kp body g) (hs : ∀ v, foldedSetIterable (.Name x p2) X.env v = pure v := by intro _; rfl) : DS X RX W kp (.For tg (.Name x p2) body [] pos) (fForKT i t g) := by
  have base := ps_for (pos := pos) hp hc (di_keysLT (tg := tg) (RX := RX) (W := W) h) hg hb hs
  have run : ∀ (D : Ends) (σ : L2.St) (H : Hp) (P : AS) (ρ : Ev) (FE : FP) (ks : List (List Key)) (xs : List Hap.D), Stt X.K P H ρ σ FE → ρ[i]? = some (some (.dcT false ks xs)) → LkdT i σ H → PoS X.K RX W kp D P σ H FE (loopS (stepS t g) (ks.map keyT) ρ) → tFor (tILT X.K RX W i) (tG X.K kp t) (tS X.K RX W kp g) D σ H := by
    intro D σ H P ρ FE ks xs S e0 lk q
    refine ⟨⟨P, ρ, FE, S, ?_⟩, lk⟩
    have ef : iKeyT i ρ = .ok (ks.map keyT) ρ := by unfold iKeyT; rw [e0]
    rw [ef]
    simp only
    intro J P1 H1 FE1 S1 t1 wk
    have q1 := PoS.later q t1 Kp.refl
    refine ⟨fun i m σ2 H2 => m = (ks.map keyT).length - i ∧ i ≤ (ks.map keyT).length ∧ (∀ b o, P1 b → H1 b = some o → NT o → H2 b = some o) ∧ ∃ P2 ρ2 FE2, Stt X.K P2 H2 ρ2 σ2 FE2 ∧ (∀ b, P1 b → P2 b) ∧ PoS X.K RX W kp D P2 σ2 H2 FE2 (loopS (stepS t g) ((ks.map keyT).drop i) ρ2),
      ⟨(ks.map keyT).length, by simp, Nat.zero_le _, fun _ _ _ e _ => e, P1, ρ, FE1, S1, fun _ z => z, by simpa using q1⟩, ?_⟩
    rintro i m σ2 H2 ⟨rfl, hi, kH, P2, ρ2, FE2, S2, kP, q2⟩
    by_cases hlt : i < (ks.map keyT).length
    · have hd : (ks.map keyT)[i]? = some (ks.map keyT)[i] := List.getElem?_eq_getElem hlt
      obtain ⟨go, yl⟩ := wk.go P2 H2 i (ks.map keyT)[i] S2.tab kP kH hd
      have hdr : (ks.map keyT).drop i = (ks.map keyT)[i] :: (ks.map keyT).drop (i + 1) := List.drop_eq_getElem_cons hlt
      rw [hdr] at q2
      refine .inr ⟨go, fun σ' H' => (∀ b o, P1 b → H1 b = some o → NT o → H' b = some o) ∧ ∃ P3 ρ3 FE3, Stt X.K P3 H' ρ3 σ' FE3 ∧ (∀ b, P1 b → P3 b) ∧ PoS X.K RX W kp D P3 σ' H' FE3 (loopS (stepS t g) ((ks.map keyT).drop (i + 1)) ρ3),
        fun σ' H' ⟨k1, z⟩ => ⟨(ks.map keyT).length - (i + 1), by omega, rfl, hlt, k1, z⟩, fun x H3 y => ?_⟩
      obtain ⟨P3, n3, r3⟩ := yl x H3 y
      have S3 := n3.stt S2
      have t3 : Tr P2 H2 (U FE2) P3 H3 (U FE2) := n3.tr.less'
      refine ⟨P3, ρ2, FE2, (ks.map keyT)[i], E_, S3, ⟨r3, fun b z => z.elim⟩, ?_⟩
      simp only [loopS, stepS] at q2
      cases e1 : t (ks.map keyT)[i] ρ2 with
      | none => simp only [e1] at q2; exact q2
      | some ρ3 =>
        simp only [e1] at q2
        intro σ4 P4 H4 FE4 S4 t4 k4
        have t4' : Tr P3 H3 (U FE2) P4 H4 (U FE4) := ⟨fun b o e n => t4.frame b o e fun z => z.elim n False.elim, t4.mono, fun b z => (t4.back b z).imp id fun z => z.imp (fun z => z.elim id False.elim) id, fun b z => (t4.sub b z).imp (fun z => z.elim id False.elim) id, t4.alive⟩
        have t24 := t3.trans t4'
        have kH4 : ∀ b o, P1 b → H1 b = some o → NT o → H4 b = some o := fun b o p e nt => t24.frame b o (kH b o p e nt) (fun ⟨j, z⟩ => (S2.fin j b z).2 (kP b p)) nt
        have kP4 : ∀ b, P1 b → P4 b := fun b z => t24.mono b (kP b z)
        refine ⟨P4, ρ3, FE4, S4, ?_⟩
        have nxt : ∀ {ρ5 : Ev} {σ5 : L2.St} {P5 : AS} {H5 : Hp} {FE5 : FP}, Stt X.K P5 H5 ρ5 σ5 FE5 → Tr P4 H4 (U FE4) P5 H5 (U FE5) → Kp kp σ4 σ5 → PoS X.K RX W kp D P2 σ2 H2 FE2 (loopS (stepS t g) ((ks.map keyT).drop (i + 1)) ρ5) →
            (∀ b o, P1 b → H1 b = some o → NT o → H5 b = some o) ∧ ∃ P3 ρ3 FE3, Stt X.K P3 H5 ρ3 σ5 FE3 ∧ (∀ b, P1 b → P3 b) ∧ PoS X.K RX W kp D P3 σ5 H5 FE3 (loopS (stepS t g) ((ks.map keyT).drop (i + 1)) ρ3) :=
          fun {ρ5 σ5 P5 H5 FE5} S5 t5 k5 q5 => ⟨fun b o p e nt => t5.frame b o (kH4 b o p e nt) (fun ⟨j, z⟩ => (S4.fin j b z).2 (kP4 b p)) nt, P5, ρ5, FE5, S5, fun b z => t5.mono b (kP4 b z), q5.later (t24.trans t5) (k4.trans k5)⟩
        cases e2 : g ρ3 with
        | nx ρ5 => simp only [e2] at q2; exact fun σ5 P5 H5 FE5 S5 t5 k5 => nxt S5 t5 k5 q2
        | ct ρ5 => simp only [e2] at q2; exact fun σ5 P5 H5 FE5 S5 t5 k5 => nxt S5 t5 k5 q2
        | bk ρ5 => simp only [e2] at q2; exact fun σ5 P5 H5 FE5 S5 t5 k5 => q2 σ5 P5 H5 FE5 S5 (t24.trans t5) (k4.trans k5)
        | rt d ρ5 => simp only [e2] at q2; exact fun v σ5 P5 H5 FE5 F5 S5 T5 t5 k5 => q2 v σ5 P5 H5 FE5 F5 S5 T5 (t24.trans t5) (k4.trans k5)
        | exc x ρ5 => simp only [e2] at q2; exact fun cls dx σ5 P5 H5 FE5 S5 t5 k5 r => q2 cls dx σ5 P5 H5 FE5 S5 (t24.trans t5) (k4.trans k5) r
        | stk => simp only [e2] at q2; exact q2
    · have e : i = (ks.map keyT).length := by omega
      subst e
      rw [List.drop_length] at q2
      exact .inl ⟨wk.stop H2 kH, q2 σ2 P2 H2 FE2 S2 Tr.refl Kp.refl⟩
  refine ⟨fun pins s σ H D I q => ?_⟩
  obtain ⟨P, ρ, FE, S, q⟩ := q
  unfold fForKT at q
  split at q
  · rename_i o ks xs e0
    obtain ⟨v, ev, r⟩ := S.rel i _ e0
    have hF : ∀ b, FE i b → H b ≠ none := fun b z => (S.fin i b z).1
    have hl : i < ρ.length := (List.getElem?_eq_some_iff.mp e0).1
    have S0 : Stt X.K (fun b => P b ∨ FE i b) H (ρ.set i (some (frz (.dcT o ks xs)))) σ (fun j b => j ≠ i ∧ FE j b) := ⟨fun b z => z.elim (S.pin b) (hF b), fun j b z => ⟨(S.fin j b z.2).1, fun w => w.elim (S.fin j b z.2).2 fun w => z.1 (S.dj j i b z.2 w)⟩, fun j k b z w => S.dj j k b z.2 w.2, fun j d' e' => (by
      by_cases hj : j = i
      · subst hj
        rw [List.getElem?_set_self hl] at e'
        cases e'
        exact ⟨v, ev, rl_frz r (fun b z => .inl z) fun b z => .inr z⟩
      · rw [List.getElem?_set_ne (Ne.symm hj)] at e'
        obtain ⟨w, e1, r1⟩ := S.rel j d' e'
        exact ⟨w, e1, rl_mono r1 (fun b z => .inl z) (fun b o z _ _ => z) fun b z => ⟨hj, z⟩⟩), by simpa using S.len, S.tab.mono fun _ z => .inl z⟩
    have t0 : Tr P H (U FE) (fun b => P b ∨ FE i b) H (U fun j b => j ≠ i ∧ FE j b) := ⟨fun b o z _ _ => z, fun b z => .inl z, fun b z => z.imp id fun w => .inl ⟨i, w⟩, fun b ⟨j, w⟩ => .inl ⟨j, w.2⟩, fun b z => z⟩
    have q0 := PoS.later q t0 Kp.refl
    have e1 : (ρ.set i (some (frz (.dcT o ks xs))))[i]? = some (some (.dcT false ks (frzs xs))) := List.getElem?_set_self hl
    obtain ⟨v', ev', r'⟩ := S0.rel i _ e1
    have hU : ∀ a : Addr, (P a ∨ FE i a) → ¬ U (fun j b => j ≠ i ∧ FE j b) a := fun a pa ⟨j, z⟩ => (S0.fin j a z).2 pa
    cases r' with
    | dcTI e k l hpp im rs =>
      rename_i pp kvs vs'
      rcases e with e | ⟨od, e⟩
      · refine (ps_lock base).run pins s σ H D I ⟨pp, _, e, trivial, fun od => ?_⟩
        exact run (lockE D pp od (.dT kvs)) σ _ _ _ _ ks _ (S0.lk (lk_onT e) hpp) e1 ⟨pp, od, kvs, ev', upd_same⟩ (PoS.lockedT e hpp (hU pp hpp) q0)
      · refine base.run pins s σ H D I (run D σ H _ _ _ ks _ S0 e1 ⟨pp, od, kvs, ev', e⟩ ?_)
        revert q0
        cases loopS (stepS t g) (ks.map keyT) (ρ.set i (some (frz (.dcT o ks xs)))) with
        | exc x ρ' => exact fun z => z.elim
        | _ => exact id
  · exact q.elim
end
section
variable {ρ : Ev} {i : Nat} {t : D → Ev → Option Ev} {g : Ev → RS}
def forKRT (o : Option (Option D)) (i : Nat) (t : D → Ev → Option Ev) (g : Ev → RS) (ρ : Ev) : RS := match o with
  | some (some (.dcT o ks xs)) => noX (loopS (stepS t g) (ks.map keyT) (ρ.set i (some (frz (.dcT o ks xs)))))
  | _ => .stk
omit [TabC] in
@[simp] theorem ap_forKT : fForKT i t g ρ = forKRT ρ[i]? i t g ρ := by unfold fForKT forKRT; rfl
omit [TabC] in
@[simp] theorem forKR_sT {o : Bool} {ks : List (List Key)} {xs : List D} : forKRT (some (some (.dcT o ks xs))) i t g ρ = noX (loopS (stepS t g) (ks.map keyT) (ρ.set i (some (.dcT false ks (frzs xs))))) := (rfl)
end
end Hap
namespace Hap
open PySem PySem.Spec PyProof.Rows L2
variable [TabC]
def frzAt (i : Nat) (ρ : Ev) : Ev := match ρ[i]? with
  | some (some (.dcT o ks xs)) => ρ.set i (some (frz (.dcT o ks xs)))
  | _ => ρ
def fLcF (i : Nat) (t : D → Ev → Option Ev) (c : Ev → R Bool) (f : Ev → R D) (vs : List Nat) : Ev → R D := fun ρ => fLc (iKeyT i) t c f vs (frzAt i ρ)
omit [TabC] in
theorem frzAt_cases {i : Nat} {ρ : Ev} : (∃ o ks xs, ρ[i]? = some (some (.dcT o ks xs)) ∧ frzAt i ρ = ρ.set i (some (frz (.dcT o ks xs)))) ∨ frzAt i ρ = ρ := by
  unfold frzAt
  split
  · rename_i o ks xs e0; exact .inl ⟨o, ks, xs, e0, rfl⟩
  · exact .inr rfl
section
variable {X : Cx} {RX : RXR} {W : WX} {e : Expr} {i : Nat}
theorem de_lcKTF {t : D → Ev → Option Ev} {c : Ev → R Bool} {f : Ev → R D} {kp vs : List Nat} (hkp : kp = (List.range X.N.length).filter fun j => decide (j ∉ vs))
    (h : PE X e (tLc (tILT X.K RX W i) (tG X.K kp t) (tT X.K RX (fun _ _ _ _ => False) c) (tE X.K RX (fun _ _ _ _ => False) f) vs)) : DE X RX W e (fLcF i t c f vs) := by
  refine ⟨fun pins s σ H Q I q => ?_⟩
  obtain ⟨P, ρ, FE, S, q⟩ := q
  unfold fLcF at q
  rcases frzAt_cases (i := i) (ρ := ρ) with ⟨o, ks, xs, e0, ef⟩ | ef
  · rw [ef] at q
    obtain ⟨v, ev, r⟩ := S.rel i _ e0
    have hF : ∀ b, FE i b → H b ≠ none := fun b z => (S.fin i b z).1
    have hl : i < ρ.length := (List.getElem?_eq_some_iff.mp e0).1
    have S0 : Stt X.K (fun b => P b ∨ FE i b) H (ρ.set i (some (frz (.dcT o ks xs)))) σ (fun j b => j ≠ i ∧ FE j b) := ⟨fun b z => z.elim (S.pin b) (hF b), fun j b z => ⟨(S.fin j b z.2).1, fun w => w.elim (S.fin j b z.2).2 fun w => z.1 (S.dj j i b z.2 w)⟩, fun j k b z w => S.dj j k b z.2 w.2, fun j d' e' => (by
      by_cases hj : j = i
      · subst hj
        rw [List.getElem?_set_self hl] at e'
        cases e'
        exact ⟨v, ev, rl_frz r (fun b z => .inl z) fun b z => .inr z⟩
      · rw [List.getElem?_set_ne (Ne.symm hj)] at e'
        obtain ⟨w, e1, r1⟩ := S.rel j d' e'
        exact ⟨w, e1, rl_mono r1 (fun b z => .inl z) (fun b o z _ _ => z) fun b z => ⟨hj, z⟩⟩), by simpa using S.len, S.tab.mono fun _ z => .inl z⟩
    have t0 : Tr P H (U FE) (fun b => P b ∨ FE i b) H (U fun j b => j ≠ i ∧ FE j b) := ⟨fun b o z _ _ => z, fun b z => .inl z, fun b z => z.imp id fun w => .inl ⟨i, w⟩, fun b ⟨j, w⟩ => .inl ⟨j, w.2⟩, fun b z => z⟩
    refine (de_lcKT hkp h).run pins s σ H Q I ⟨_, _, _, S0, ?_⟩
    revert q
    cases fLc (iKeyT i) t c f vs (ρ.set i (some (frz (.dcT o ks xs)))) with
    | ok d ρ1 => exact fun q v P' H' FE' F S' T' t' => q v P' H' FE' F S' T' (t0.trans t')
    | exc x ρ1 => exact fun q cls dx P' H' FE' S' t' r => q cls dx P' H' FE' S' (t0.trans t') r
    | stk => exact id
  · rw [ef] at q
    exact (de_lcKT hkp h).run pins s σ H Q I ⟨P, ρ, FE, S, q⟩
end
section
variable {ρ : Ev} {i : Nat} {t : D → Ev → Option Ev} {c : Ev → R Bool} {f : Ev → R D} {vs : List Nat}
omit [TabC] in
theorem lcF_at {o : Bool} {ks : List (List Key)} {xs : List D} (e : ρ[i]? = some (some (.dcT o ks xs))) : fLcF i t c f vs ρ = fLc (iKeyT i) t c f vs (ρ.set i (some (frz (.dcT o ks xs)))) := by
  unfold fLcF frzAt
  rw [e]
end
end Hap
namespace L2
open PySem PySem.Spec PyProof.Rows
def rSortedSX (K : PySem.W.Frag) : List V → Hp → VK → Prop := fun vs H Q => ∃ (a : Addr) (xs : List Str), vs = [V.ref a] ∧ SqL K H a (xs.map V.str) ∧
  ∀ (ys : List Str) (p : Addr), ys.Perm xs → sortedS ys = true → H p = none → Q (.ref p) (upd H p (.lst (ys.map V.str)))
abbrev rSortedDX : List V → Hp → VK → Prop := fun xs H Q => ∃ (a : Addr) (kvs : List (Key × V)) (ks : List Str), xs = [.ref a] ∧ Rd H a (.dK kvs) ∧ kvs.map (·.1) = ks.map Sum.inr ∧
    ∀ ys p, ys.Perm ks → sortedS ys = true → H p = none → Q (.ref p) (upd H p (.lst (ys.map V.str)))
section
variable {X : Cx}
theorem cr_sortedSX : CallR X (.builtin "sorted") (rSortedSX X.K) := by
  intro pins s σ H vs us Q I r h
  obtain ⟨a, xs, rfl, hs, q⟩ := h
  obtain ⟨its, rv, hl, hz⟩ := I.list hs
  rw [Vals.ref1 r]
  have hlen0 := rv.length
  rw [List.length_map] at hlen0 hz
  refine PyProof.Rows.sorted_strsAny hl.isList rv.strs (by rw [← hlen0]; exact hz) fun out ys h1 h2 h3 => ?_
  obtain ⟨ep, he'⟩ := PyProof.Rows.sortedAll_at s.heap its out
  have hlen : (ys.map V.str).length ≤ sizeLine := by rw [List.length_map, h2.length_eq]; exact hz
  exact ⟨.ref _, upd H (s.heap.objs.size + 1) (.lst (ys.map V.str)), I.laid (t' := s.toks) (fun _ _ => PyProof.Rows.sortedAll_old) (Nat.le_succ _) ⟨hlen, out.toList, ep, vals_of_strs h1, he'⟩, rfl, q ys _ h2 h3 (I.hok.fresh (Nat.le_succ _))⟩
theorem call_sortedDX (hcalm : X.calm = true) : CallR X (.builtin "sorted") rSortedDX := by
  intro pins s σ H xs us Q I r q
  obtain ⟨a, kvs, ks, ex, hd, hks, q⟩ := q
  subst ex
  obtain ⟨u, eu, rx⟩ := vals1 r
  subst eu
  cases rx
  obtain ⟨z, lo, vs, rel, dd⟩ := dk_rd I.hok hd
  obtain ⟨ep, hat⟩ := dd.dictAt
  have hkeys : vs.map (·.1) = ks.map Sum.inr := rel.keys.symm.trans hks
  have hl : vs.length = ks.length := by
    have e := congrArg List.length hkeys
    rw [List.length_map, List.length_map] at e
    exact e
  have h16 : vs.length ≤ sizeLine := by rw [← rel.length]; exact z
  have h17 : ks.length ≤ sizeLine := by rw [← hl]; exact h16
  refine Calls.call_function_entry PyProof.Rows.kind_sorted PyProof.Rows.plain_sorted PyProof.Rows.entry_sorted (PyProof.Rows.args_sorted1 _) ?_
  unfold Builtin.«sorted»
  refine wpAny_bind (m := checkCount "sorted" 1 1 _) (wpAny_pure ?_)
  refine wpAny_bind (PySem.W.kdu_collect (A := X.A.in1) (PySem.W.kdl_dict (knd := mixKind X.prog X.w) (kvs := vs) (ep := ep) lo) (I.ok.hd hcalm) hat h16 fun h' tk acc hk hacc => ?_)
  have hal : acc.toList.length = ks.length := by rw [Array.length_toList, hacc.1, hl]
  have hS : StrsAre acc.toList ks := strs_at hal fun j v e => by
    obtain ⟨k, x, e1, e2⟩ := hacc.2 j v (by rw [← Array.getElem?_toList]; exact e)
    have e3 : (vs.map (·.1))[j]? = some k := by rw [List.getElem?_map, e1]; all_goals rfl
    rw [hkeys, List.getElem?_map] at e3
    cases e4 : ks[j]? with
    | none => rw [e4] at e3; cases e3
    | some y =>
      rw [e4] at e3
      have e5 : Sum.inr y = k := Option.some.inj e3
      subst e5
      obtain ⟨t, ev⟩ := Value.isStrOf_shape (x := y) (v := v) e2
      exact ⟨y, t, rfl, ev⟩
  have I1 : Inv X pins σ H { s with heap := h', toks := tk } := I.kept hk
  refine wpAny_bind (wpAny_newList ?_ (by rw [hal]; exact h17))
  have hoL : (h'.push (seqObj "list" acc.toList.toArray 0)).get? h'.objs.size = some (seqObj "list" acc.toList.toArray 0) := Heap.get?_push_size _ rfl
  show wpAny _ _ _ _ _ { s with heap := h'.push (seqObj "list" acc.toList.toArray 0), toks := tk }
  refine wpAny_bind (wpAny_holding (wpAny_call_entry PyProof.Rows.slot_list_sort ⟨_, hoL, rfl⟩ PyProof.Rows.entry_list_sort
    (list_sort_treeKAny strKind_oneLt (s := { s with heap := h'.push (seqObj "list" acc.toList.toArray 0), toks := tk }) hoL hS.keysOf (fun v₁ v₂ rest e => keyKind_strs (by rw [← e]; exact hS)) (by rw [hal]; exact h17) fun st' hp hs => ⟨_, rfl, ?_⟩)
    (PyProof.Rows.args_list_sort _)))
  obtain ⟨ys, g1, g2, g3⟩ := sorted_out_str hS hp hs
  obtain ⟨e', he'⟩ := PyProof.Rows.sortedHeap_at (vs := acc.toList) (out := (arrOf st').map (·.2)) hoL
  have hlen : (ys.map V.str).length ≤ sizeLine := by
    rw [List.length_map, g2.length_eq]
    exact h17
  refine wpAny_pure ⟨_, rfl, .ref h'.objs.size, upd H h'.objs.size (.lst (ys.map V.str)), I1.laid (t' := tk) (fun b u e => ?_) (Nat.le_refl _)
    (show ObjOk X.prog X.w _ _ _ (.lst (ys.map V.str)) from ⟨hlen, ((arrOf st').map (·.2)).toList, e', vals_of_strs g1, by rw [Array.toArray_toList]; exact he'⟩), rfl, q ys _ g2 g3 (I1.hok.fresh (Nat.le_refl _))⟩
  have hb : b < h'.objs.size := Heap.lt_size e
  rw [PyProof.Rows.sortedHeap_old (Nat.ne_of_lt hb) (by rw [size_push']; exact Nat.lt_succ_of_lt hb)]
  exact Heap.get?_push_of_some _ e
end
end L2
namespace Hap
open PySem PySem.Spec PyProof.Rows L2
variable [TabC]
def gSortSX (ds : List D) : Option D := match ds with
  | [d] => (lstOf d).bind fun xs => (strsD xs).bind fun ss => some (.lst true ((sortS ss).map D.str))
  | _ => none
theorem vSortSX {K : PySem.W.Frag} : VOpN K (rSortedSX K) gSortSX := by
  intro P H ds vs x Q pin rs g h
  unfold gSortSX at g
  split at g
  · rename_i d
    obtain ⟨v, rfl, r⟩ := rls1 rs
    cases e : lstOf d with
    | none => rw [e] at g; cases g
    | some xs =>
      rw [e] at g
      obtain ⟨p, ws, rfl, s, r2⟩ := lstOf_read r e
      cases e2 : strsD xs with
      | none => simp only [Option.bind, e2] at g; cases g
      | some ss =>
        simp only [Option.bind, e2] at g
        cases g
        rw [strs_rls r2 e2] at s
        refine ⟨p, ss, rfl, s, fun ys q hp hs hn => ?_⟩
        have e3 : ys = sortS ss := sorted_uniq (hp.trans (sortS_perm ss).symm) (sortedS_pw ys hs) (sortS_sorted ss)
        subst e3
        exact h _ P _ (fun b => b = q) (New.lst hn pin) (.lstO (F' := E_) upd_same (fun _ => rfl) (fun b z => z.elim) (rls_strs _))
  · cases g
def strKs : List Key → Option (List Str)
  | [] => some []
  | .inr x :: ks => (strKs ks).map (x :: ·)
  | .inl _ :: _ => none
omit [TabC] in
theorem strKs_map : ∀ {ks : List Key} {ss : List Str}, strKs ks = some ss → ks = ss.map Sum.inr
  | [], ss, e => by cases e; rfl
  | .inr x :: ks, ss, e => by
    unfold strKs at e
    cases e2 : strKs ks with
    | none => rw [e2] at e; cases e
    | some zs => rw [e2] at e; cases e; rw [strKs_map e2]; rfl
  | .inl _ :: _, ss, e => by cases e
def gSortDX (ds : List D) : Option D := match ds with
  | [.dct _ ks _] => (strKs ks).map fun ss => .lst true ((sortS ss).map D.str)
  | _ => none
theorem vSortDX {K : PySem.W.Frag} : VOpN K rSortedDX gSortDX := by
  intro P H ds vs x Q pin rs g h
  unfold gSortDX at g
  split at g
  · rename_i o ks xs
    obtain ⟨v, rfl, r⟩ := rls1 rs
    obtain ⟨p, ws, rfl, e, l, r2⟩ := dct_read r
    cases e2 : strKs ks with
    | none => rw [e2] at g; cases g
    | some ss =>
      rw [e2] at g; cases g
      refine ⟨p, _, ss, rfl, e, ?_, fun ys q hp hs hn => ?_⟩
      · rw [List.map_fst_zip (Nat.le_of_eq l)]; exact strKs_map e2
      · have e3 : ys = sortS ss := sorted_uniq (hp.trans (sortS_perm ss).symm) (sortedS_pw ys hs) (sortS_sorted ss)
        subst e3
        exact h _ P _ (fun b => b = q) (New.lst hn pin) (.lstO (F' := E_) upd_same (fun _ => rfl) (fun b z => z.elim) (rls_strs _))
  · cases g
end Hap
namespace Law
open PySem PySem.Spec PyProof.Rows L2 Hap M
def top (i : Nat) : Stmt := PySem.Challenge.pw_handsapart_k24_orders_listed.main.body.getD i (.Pass ⟨0, 0, 0, 0⟩)
abbrev s__law_bag : Stmt := top 46
theorem sc__law_bag : FnScope ["_law_cell_here"] ["_law_cell_here"] (defScope s__law_bag) := ⟨rfl, rfl, rfl, by decide +kernel, rfl, by decide +kernel, by decide +kernel⟩
abbrev s__law_take : Stmt := top 47
theorem sc__law_take : FnScope ["_law_bag_here", "_law_many", "_law_digit"] ["_law_bag_here", "_law_many"] (defScope s__law_take) := ⟨rfl, rfl, rfl, by decide +kernel, rfl, by decide +kernel, by decide +kernel⟩
abbrev s__law_house : Stmt := top 48
theorem sc__law_house : FnScope ["_law_bag_here", "_law_hands", "_law_many", "_law_few", "_law_letters", "_law_at", "_law_k", "_law_bits", "_law_hand"] ["_law_bag_here"] (defScope s__law_house) := ⟨rfl, rfl, rfl, by decide +kernel, rfl, by decide +kernel, by decide +kernel⟩
abbrev s__law_row : Stmt := top 49
theorem sc__law_row : FnScope ["_law_bag_here", "_law_house_here", "_law_most", "_law_size", "_law_row_here", "_law_k"] ["_law_bag_here", "_law_house_here", "_law_most"] (defScope s__law_row) := ⟨rfl, rfl, rfl, by decide +kernel, rfl, by decide +kernel, by decide +kernel⟩
abbrev s__law_drawn : Stmt := top 50
theorem sc__law_drawn : FnScope ["_law_cell_here", "_law_most", "_law_bag_here", "_law_house_here"] ["_law_cell_here", "_law_most"] (defScope s__law_drawn) := ⟨rfl, rfl, rfl, by decide +kernel, rfl, by decide +kernel, by decide +kernel⟩
abbrev s_is_whole : Stmt := top 22
theorem sc_is_whole : FnScope ["thing"] ["thing"] (defScope s_is_whole) := ⟨rfl, rfl, rfl, by decide +kernel, rfl, by decide +kernel, by decide +kernel⟩
abbrev s_is_sign : Stmt := top 24
theorem sc_is_sign : FnScope ["thing"] ["thing"] (defScope s_is_sign) := ⟨rfl, rfl, rfl, by decide +kernel, rfl, by decide +kernel, by decide +kernel⟩
abbrev s_is_rising : Stmt := top 23
theorem sc_is_rising : FnScope ["things", "many", "ahead", "thing"] ["things", "many"] (defScope s_is_rising) := ⟨rfl, rfl, rfl, by decide +kernel, rfl, by decide +kernel, by decide +kernel⟩
abbrev s_is_entry : Stmt := top 25
theorem sc_is_entry : FnScope ["thing", "hands"] ["thing", "hands"] (defScope s_is_entry) := ⟨rfl, rfl, rfl, by decide +kernel, rfl, by decide +kernel, by decide +kernel⟩
abbrev s_is_house : Stmt := top 26
theorem sc_is_house : FnScope ["thing", "hands", "letters", "ahead", "entry"] ["thing"] (defScope s_is_house) := ⟨rfl, rfl, rfl, by decide +kernel, rfl, by decide +kernel, by decide +kernel⟩
abbrev s_look_house : Stmt := top 27
theorem sc_look_house : FnScope ["thing"] ["thing"] (defScope s_look_house) := ⟨rfl, rfl, rfl, by decide +kernel, rfl, by decide +kernel, by decide +kernel⟩
abbrev s_letters_of : Stmt := top 28
theorem sc_letters_of : FnScope ["house", "letter", "owned"] ["house"] (defScope s_letters_of) := ⟨rfl, rfl, rfl, by decide +kernel, rfl, by decide +kernel, by decide +kernel⟩
abbrev s_is_row : Stmt := top 31
theorem sc_is_row : FnScope ["house", "thing", "sign"] ["house", "thing"] (defScope s_is_row) := ⟨rfl, rfl, rfl, by decide +kernel, rfl, by decide +kernel, by decide +kernel⟩
abbrev s_look_row : Stmt := top 32
theorem sc_look_row : FnScope ["house", "thing"] ["house", "thing"] (defScope s_look_row) := ⟨rfl, rfl, rfl, by decide +kernel, rfl, by decide +kernel, by decide +kernel⟩
abbrev s_look_both : Stmt := top 35
theorem sc_look_both : FnScope ["house", "row"] ["house", "row"] (defScope s_look_both) := ⟨rfl, rfl, rfl, by decide +kernel, rfl, by decide +kernel, by decide +kernel⟩
abbrev s_places_by_letter : Stmt := top 38
theorem sc_places_by_letter : FnScope ["house", "row", "letter", "own", "place", "other"] ["house", "row"] (defScope s_places_by_letter) := ⟨rfl, rfl, rfl, by decide +kernel, rfl, by decide +kernel, by decide +kernel⟩
abbrev s_number_of : Stmt := top 29
theorem sc_number_of : FnScope ["house", "letter"] ["house", "letter"] (defScope s_number_of) := ⟨rfl, rfl, rfl, by decide +kernel, rfl, by decide +kernel, by decide +kernel⟩
abbrev s_own_of : Stmt := top 30
theorem sc_own_of : FnScope ["house", "letter"] ["house", "letter"] (defScope s_own_of) := ⟨rfl, rfl, rfl, by decide +kernel, rfl, by decide +kernel, by decide +kernel⟩
abbrev s_bits_below : Stmt := top 34
theorem sc_bits_below : FnScope ["house", "row", "found", "last", "place", "letter", "bits", "hand"] ["house", "row"] (defScope s_bits_below) := ⟨rfl, rfl, rfl, by decide +kernel, rfl, by decide +kernel, by decide +kernel⟩
abbrev s_next_places : Stmt := top 39
theorem sc_next_places : FnScope ["counts", "bits", "places", "below", "found", "number", "mine", "place"] ["counts", "bits", "places", "below"] (defScope s_next_places) := ⟨rfl, rfl, rfl, by decide +kernel, rfl, by decide +kernel, by decide +kernel⟩
abbrev s_more_of : Stmt := top 40
theorem sc_more_of : FnScope ["counts", "number"] ["counts", "number"] (defScope s_more_of) := ⟨rfl, rfl, rfl, by decide +kernel, rfl, by decide +kernel, by decide +kernel⟩
abbrev s_counted : Stmt := top 41
theorem sc_counted : FnScope ["house", "row", "places", "below", "layer", "pasts", "step", "behind", "counts", "many", "bits", "number", "place", "more", "letter"] ["house", "row"] (defScope s_counted) := ⟨rfl, rfl, rfl, by decide +kernel, rfl, by decide +kernel, by decide +kernel⟩
abbrev s_orders : Stmt := top 42
theorem sc_orders : FnScope ["house", "row", "places", "below", "found", "step", "longer", "told", "counts", "bits", "number", "place", "letter"] ["house", "row"] (defScope s_orders) := ⟨rfl, rfl, rfl, by decide +kernel, rfl, by decide +kernel, by decide +kernel⟩
abbrev s__law_asked : Stmt := top 55
theorem sc__law_asked : FnScope ["_law_house_here", "_law_row_here", "_law_e"] ["_law_house_here", "_law_row_here"] (defScope s__law_asked) := ⟨rfl, rfl, rfl, by decide +kernel, rfl, by decide +kernel, by decide +kernel⟩
abbrev s__law_hang : Stmt := top 44
theorem sc__law_hang : FnScope ["_law_house_here", "_law_one", "_law_other", "_law_owned", "_law_hand"] ["_law_house_here", "_law_one", "_law_other"] (defScope s__law_hang) := ⟨rfl, rfl, rfl, by decide +kernel, rfl, by decide +kernel, by decide +kernel⟩
abbrev s__law_below : Stmt := top 52
theorem sc__law_below : FnScope ["_law_house_here", "_law_row_here", "_law_found", "_law_j", "_law_mine", "_law_i", "_law_k"] ["_law_house_here", "_law_row_here"] (defScope s__law_below) := ⟨rfl, rfl, rfl, by decide +kernel, rfl, by decide +kernel, by decide +kernel⟩
abbrev s__law_counted : Stmt := top 53
theorem sc__law_counted : FnScope ["_law_house_here", "_law_row_here", "_law_need", "_law_places", "_law_layer", "_law_pasts", "_law_step", "_law_behind", "_law_counts", "_law_many", "_law_bits", "_law_at", "_law_mine", "_law_k", "_law_more", "_law_one", "_law_letter", "_law_owned"] ["_law_house_here", "_law_row_here"] (defScope s__law_counted) := ⟨rfl, rfl, rfl, by decide +kernel, rfl, by decide +kernel, by decide +kernel⟩
abbrev s__law_all_rows : Stmt := top 54
theorem sc__law_all_rows : FnScope ["_law_house_here", "_law_row_here", "_law_found", "_law_waiting", "_law_one", "_law_k", "_law_other"] ["_law_house_here", "_law_row_here"] (defScope s__law_all_rows) := ⟨rfl, rfl, rfl, by decide +kernel, rfl, by decide +kernel, by decide +kernel⟩
abbrev s__law_cell : Stmt := top 51
theorem sc__law_cell : FnScope ["_law_script", "_law_k"] ["_law_script", "_law_k"] (defScope s__law_cell) := ⟨rfl, rfl, rfl, by decide +kernel, rfl, by decide +kernel, by decide +kernel⟩
abbrev s_law : Stmt := top 56
theorem sc_law : FnScope ["_law_script", "_law_k", "_law_bag_here", "_law_house_here", "_law_row_here", "_law_many", "_law_found", "_law_due", "_law_one"] ["_law_script"] (defScope s_law) := ⟨rfl, rfl, rfl, by decide +kernel, rfl, by decide +kernel, by decide +kernel⟩
def b_places_by_letter : Ev → RS :=
  (fRet (fLc (fIt itemsL (fI (vOp2 gIx (vVar 0) (vK (.int 1))))) (gT 2 (gsC (gN 2) (gsC (gN 3) gsN))) fYes (fLc (fItN enumS (fCons (fVar 1) fNil)) (gT 2 (gsC (gN 4) (gsC (gN 5) gsN))) (fTv (vOp2 gEq (vVar 5) (vVar 2))) (fVar 4) [4, 5]) [2, 3]))
def m_places_by_letter : Fn := semOf (List.replicate 2 false) 6 b_places_by_letter
def l_next_places_1 : Ev → RS :=
  (fIf (fTv (vOp2 gLt (vOp2 gIx (vVar 0) (vVar 5)) (vOpN gLen (vCons (vVar 6) vNil))))
    (fSeq (fAsg (fI (vOp2 gIx (vVar 6) (vOp2 gIx (vVar 0) (vVar 5)))) (gN 7))
    (fIf (fTv (vOp2 gEq (vOp2 gBand (vOp2 gIx (vVar 3) (vVar 7)) (vOp1 gInv (vVar 1))) (vOp2 gShl (vK (.int 1)) (vVar 7))))
    (fAppend 4 (fCons (fTup (fCons (fVar 5) (fCons (fVar 7) fNil))) fNil))
    fNext))
    fNext)
def b_next_places : Ev → RS :=
  (fSeq (fAsg (fLst fNil) (gN 4))
    (fSeq (fFor (fItN enumL (fCons (fVar 2) fNil)) (gT 2 (gsC (gN 5) (gsC (gN 6) gsN))) l_next_places_1)
    (fRet (fMv 4))))
def m_next_places : Fn := semOf (List.replicate 4 false) 8 b_next_places
def b_more_of : Ev → RS :=
  (fRet (fOp2 gAddT (fOp2V gAddT (fSl (fVar 0) fO0 (fO (fVar 1))) (vTup (vCons (vOp2 gAdd (vOp2 gIx (vVar 0) (vVar 1)) (vK (.int 1))) vNil))) (fSl (fVar 0) (fO (fI (vOp2 gAdd (vVar 1) (vK (.int 1))))) fO0)))
def m_more_of : Fn := semOf (List.replicate 2 false) 2 b_more_of
def l_counted_1 : Ev → RS :=
  (fSeq (fAsg (fCall 2 m_more_of (fCons (fVar 8) (fCons (fVar 11) fNil))) (gN 13))
    (fPutD 7 (fTup (fCons (fOp2V gAdd (fOp2 gIxI (fDGet 7 (fVar 13) (fTup (fCons (fK (.int 0)) (fCons (fK (.int 0)) fNil)))) (fK (.int 0))) (vVar 9)) (fCons (fI (vOp2 gBor (vVar 10) (vOp2 gShl (vK (.int 1)) (vVar 12)))) fNil))) (fVar 13)))
def l_counted_2 : Ev → RS :=
  (fSeq (fAsg (fI (vOp2 gIx (vVar 4) (vVar 8))) (gT 2 (gsC (gN 9) (gsC (gN 10) gsN))))
    (fFor (fIt itemsL (fCall 4 m_next_places (fCons (fVar 8) (fCons (fVar 10) (fCons (fVar 2) (fCons (fVar 3) fNil)))))) (gT 2 (gsC (gN 11) (gsC (gN 12) gsN))) l_counted_1))
def l_counted_3 : Ev → RS :=
  (fSeq (fAsg fDNewT (gN 7))
    (fSeq (fForKT 4 (gN 8) l_counted_2)
    (fSeq (fAsg (fVar 7) (gN 4))
    (fAug 5 (gI2 fun i j => i + j) (fI (vOpN gLenT (vCons (vVar 4) vNil)))))))
def b_counted : Ev → RS :=
  (fSeq (fAsg (fCall 2 m_places_by_letter (fCons (fVar 0) (fCons (fVar 1) fNil))) (gN 2))
    (fSeq (fAsg (fCall 2 m_bits_below (fCons (fVar 0) (fCons (fVar 1) fNil))) (gN 3))
    (fSeq (fAsg (fD1T (fOpN gTuple (fCons (fLc (fIt itemsL (fVar 2)) (gN 14) fYes (fK (.int 0)) [14]) fNil)) (fTup (fCons (fK (.int 1)) (fCons (fK (.int 0)) fNil)))) (gN 4))
    (fSeq (fAsg (fK (.int 1)) (gN 5))
    (fSeq (fFor (fIt itemsS (fVar 1)) (gN 6) l_counted_3)
    (fRet (fTup (fCons (fOpN gSum (fCons (fLcF 4 (gN 8) fYes (fI (vOp2 gIx (vOp2 gIx (vVar 4) (vVar 8)) (vK (.int 0)))) [8]) fNil)) (fConsL 5 fNil)))))))))
def m_counted : Fn := semOf (List.replicate 2 false) 15 b_counted
def l_orders_1 : Ev → RS :=
  (fAppend 6 (fCons (fTup (fCons (fI (vOp2 gAdd (vVar 7) (vOp2 gIx (vVar 1) (vVar 11)))) (fCons (fCall 2 m_more_of (fCons (fVar 8) (fCons (fVar 10) fNil))) (fCons (fI (vOp2 gBor (vVar 9) (vOp2 gShl (vK (.int 1)) (vVar 11)))) fNil)))) fNil))
def l_orders_2 : Ev → RS :=
  (fFor (fIt itemsL (fCall 4 m_next_places (fCons (fVar 8) (fCons (fVar 9) (fCons (fVar 2) (fCons (fVar 3) fNil)))))) (gT 2 (gsC (gN 10) (gsC (gN 11) gsN))) l_orders_1)
def l_orders_3 : Ev → RS :=
  (fSeq (fAsg (fLst fNil) (gN 6))
    (fSeq (fFor (fIt itemsL (fVar 4)) (gT 3 (gsC (gN 7) (gsC (gN 8) (gsC (gN 9) gsN)))) l_orders_2)
    (fAsg (fVar 6) (gN 4))))
def b_orders : Ev → RS :=
  (fSeq (fDrop (fCall 2 m_look_both (fCons (fVar 0) (fCons (fVar 1) fNil))))
    (fSeq (fIf (fTb (fOp2V gGt (fOp2 gIxI (fCall 2 m_counted (fCons (fVar 0) (fCons (fVar 1) fNil))) (fK (.int 0))) (vK (.int 500))))
    (fRaise "TooMany")
    fNext)
    (fSeq (fAsg (fCall 2 m_places_by_letter (fCons (fVar 0) (fCons (fVar 1) fNil))) (gN 2))
    (fSeq (fAsg (fCall 2 m_bits_below (fCons (fVar 0) (fCons (fVar 1) fNil))) (gN 3))
    (fSeq (fAsg (fLst (fCons (fTup (fCons (fK (.str "")) (fCons (fOpN gTuple (fCons (fLc (fIt itemsL (fVar 2)) (gN 12) fYes (fK (.int 0)) [12]) fNil)) (fCons (fK (.int 0)) fNil)))) fNil)) (gN 4))
    (fSeq (fFor (fIt itemsS (fVar 1)) (gN 5) l_orders_3)
    (fRet (fOpN gSortSX (fCons (fLc (fIt itemsL (fVar 4)) (gT 3 (gsC (gN 7) (gsC (gN 8) (gsC (gN 9) gsN)))) fYes (fVar 7) [7, 8, 9]) fNil)))))))))
def m_orders : Fn := semOf (List.replicate 2 false) 13 b_orders
def b__law_asked : Ev → RS :=
  (fTryH D.str (fRet (fCall 2 m_orders (fCons (fVar 0) (fCons (fVar 1) fNil)))))
def m__law_asked : Fn := semOf (List.replicate 2 false) 3 b__law_asked
def l__law_counted_1 : Ev → RS :=
  (fSeq (fAsg (fI (vOp2 gIx (vOp2 gAdd (vVar 12) (vLst (vCons (vK (.int 0)) vNil))) (vOp2 gIx (vVar 8) (vVar 11)))) (gN 13))
    (fIf (fAnd (fTv (vOp2 gLt (vOp2 gIx (vVar 8) (vVar 11)) (vOpN gLen (vCons (vVar 12) vNil)))) (fTv (vOp2 gEq (vOp2 gBand (vOp2 gIx (vVar 2) (vVar 13)) (vOp1 gInv (vVar 10))) (vOp2 gShl (vK (.int 1)) (vVar 13)))))
    (fSeq (fAsg (fOp2 gAddT (fOp2V gAddT (fSl (fVar 8) fO0 (fO (fVar 11))) (vTup (vCons (vOp2 gAdd (vOp2 gIx (vVar 8) (vVar 11)) (vK (.int 1))) vNil))) (fSl (fVar 8) (fO (fI (vOp2 gAdd (vVar 11) (vK (.int 1))))) fO0)) (gN 14))
    (fSeq (fAsg (fDGet 7 (fVar 14) (fLst (fCons (fK (.int 0)) (fCons (fK (.int 0)) fNil)))) (gN 15))
    (fPutD 7 (fLst (fCons (fI (vOp2 gAdd (vOp2 gIx (vVar 15) (vK (.int 0))) (vVar 9))) (fCons (fI (vOp2 gBor (vVar 10) (vOp2 gShl (vK (.int 1)) (vVar 13)))) fNil))) (fVar 14))))
    fNext))
def l__law_counted_2 : Ev → RS :=
  (fSeq (fAsg (fI (vOp2 gIx (vVar 4) (vVar 8))) (gTL 2 (gsC (gN 9) (gsC (gN 10) gsN))))
    (fFor (fItN enumL (fCons (fVar 3) fNil)) (gT 2 (gsC (gN 11) (gsC (gN 12) gsN))) l__law_counted_1))
def l__law_counted_3 : Ev → RS :=
  (fSeq (fAsg fDNewT (gN 7))
    (fSeq (fForKT 4 (gN 8) l__law_counted_2)
    (fSeq (fAsg (fVar 7) (gN 4))
    (fAsg (fI (vOp2 gAdd (vVar 5) (vOpN gLenT (vCons (vVar 4) vNil)))) (gN 5)))))
def b__law_counted : Ev → RS :=
  (fSeq (fAsg (fLc (fIt itemsL (fCall 2 m__law_below (fCons (fVar 0) (fCons (fVar 1) fNil)))) (gN 12) fYes (fOpN gSum (fCons (fLc (fIt itemsL (fVar 12)) (gN 13) fYes (fI (vOp2 gShl (vK (.int 1)) (vVar 13))) [13]) fNil)) [12]) (gN 2))
    (fSeq (fAsg (fLc (fIt itemsL (fI (vOp2 gIx (vVar 0) (vK (.int 1))))) (gT 2 (gsC (gN 16) (gsC (gN 17) gsN))) fYes (fLc (fItN rng1 (fCons (fI (vOpN gLen (vCons (vVar 1) vNil))) fNil)) (gN 13) (fTv (vOp2 gEq (vOp2 gIx (vVar 1) (vVar 13)) (vVar 16))) (fVar 13) [13]) [16, 17]) (gN 3))
    (fSeq (fAsg (fD1T (fOpN gTuple (fCons (fLc (fIt itemsL (fVar 3)) (gN 12) fYes (fK (.int 0)) [12]) fNil)) (fLst (fCons (fK (.int 1)) (fCons (fK (.int 0)) fNil)))) (gN 4))
    (fSeq (fAsg (fK (.int 1)) (gN 5))
    (fSeq (fFor (fIt itemsS (fVar 1)) (gN 6) l__law_counted_3)
    (fRet (fTup (fCons (fOpN gSum (fCons (fLcF 4 (gN 8) fYes (fI (vOp2 gIx (vOp2 gIx (vVar 4) (vVar 8)) (vK (.int 0)))) [8]) fNil)) (fConsL 5 fNil)))))))))
def m__law_counted : Fn := semOf (List.replicate 2 false) 18 b__law_counted
def l__law_all_rows_1 : Ev → RS :=
  (fIf (fNot (fTb (fCall 3 m__law_hang (fCons (fVar 0) (fCons (fI (vOp2 gIx (vVar 4) (vVar 5))) (fCons (fI (vOp2 gIx (vVar 4) (vOp2 gAdd (vVar 5) (vK (.int 1))))) fNil))))))
    (fSeq (fAsg (fOp2 gAdd (fOp2V gAdd (fOp2V gAdd (fSl (fVar 4) fO0 (fO (fVar 5))) (vOp2 gIx (vVar 4) (vOp2 gAdd (vVar 5) (vK (.int 1))))) (vOp2 gIx (vVar 4) (vVar 5))) (fSl (fVar 4) (fO (fI (vOp2 gAdd (vVar 5) (vK (.int 2))))) fO0)) (gN 6))
    (fIf (fTv (vOp2 gNin (vVar 6) (vVar 2)))
    (fSeq (fPutD 2 (fK (.bl true)) (fVar 6))
    (fAppend 3 (fConsL 6 fNil)))
    fNext))
    fNext)
def l__law_all_rows_2 : Ev → RS :=
  (fSeq (fAsg (fPop0 3) (gN 4))
    (fFor (fItN rng1 (fCons (fI (vOp2 gSub (vOpN gLen (vCons (vVar 4) vNil)) (vK (.int 1)))) fNil)) (gN 5) l__law_all_rows_1))
def b__law_all_rows : Ev → RS :=
  (fSeq (fAsg (fD1K (fVar 1) (fK (.bl true))) (gN 2))
    (fSeq (fAsg (fLst (fCons (fVar 1) fNil)) (gN 3))
    (fSeq (fWhile fuel (fTv (vOp2 gNe (vVar 3) (vLst vNil))) l__law_all_rows_2)
    (fRet (fOpN gSortDX (fCons (fVar 2) fNil))))))
def m__law_all_rows : Fn := semOf (List.replicate 2 false) 7 b__law_all_rows
def l_law_1 : Ev → RS :=
  (fSeq (fAsg (fCall 2 m__law_drawn (fCons (fOp2V gAdd (fCall 2 m__law_cell (fCons (fVar 0) (fCons (fVar 1) fNil))) (vVar 1)) (fCons (fK (.int 7)) fNil))) (gT 3 (gsC (gN 2) (gsC (gN 3) (gsC (gN 4) gsN)))))
    (fSeq (fAsg (fSl (fVar 4) fO0 (fO (fI (vOp2 gIx (vLst (vCons (vK (.int 32)) (vCons (vK (.int 16)) (vCons (vK (.int 16)) vNil)))) (vVar 1))))) (gN 4))
    (fSeq (fIf (fTb (fOp2V gEq (fCallIO 2 2 m__law_take (fCons (fK (.int 8)) fNil)) (vK (.int 3))))
    (fSeq (fAsg (fTup (fCons (fK (.int 4)) (fCons (fLst (fCons (fTup (fCons (fK (.str "a")) (fCons (fLst (fCons (fK (.int 0)) fNil)) fNil))) (fCons (fTup (fCons (fK (.str "b")) (fCons (fLst (fCons (fK (.int 1)) fNil)) fNil))) (fCons (fTup (fCons (fK (.str "c")) (fCons (fLst (fCons (fK (.int 2)) fNil)) fNil))) (fCons (fTup (fCons (fK (.str "d")) (fCons (fLst (fCons (fK (.int 3)) fNil)) fNil))) fNil))))) fNil))) (gN 3))
    (fAsg (fSl (fCallIO 2 3 m__law_row (fCons (fVar 3) (fCons (fK (.int 9)) fNil))) fO0 (fO (fK (.int 9)))) (gN 4)))
    fNext)
    (fSeq (fAsg (fOp2 gIxI (fCall 2 m__law_counted (fCons (fVar 3) (fCons (fVar 4) fNil))) (fK (.int 0))) (gN 5))
    (fSeq (fAsg (fCall 2 m__law_asked (fCons (fVar 3) (fCons (fVar 4) fNil))) (gN 6))
    (fIf (fTv (vOp2 gGt (vVar 5) (vK (.int 500))))
    (fIf (fTv (vOp2 gNe (vVar 6) (vK (.str "TooMany"))))
    (fRet (fK (.bl false)))
    fNext)
    (fSeq (fAsg (fCall 2 m__law_all_rows (fCons (fVar 3) (fCons (fVar 4) fNil))) (gN 7))
    (fSeq (fIf (fOr (fNot (fTv (vOpN gIsi (vCons (vVar 6) (vCons (vK (.gv (.ty "list"))) vNil))))) (fOr (fNot (fTb (fLook (fOpN gAll (fCons (fLc (fIt itemsL (fVar 6)) (gN 8) fYes (fI (vOpN gIsi (vCons (vVar 8) (vCons (vK (.gv (.ty "str"))) vNil)))) [8]) fNil))))) (fTv (vOp2 gNe (vVar 6) (vVar 7)))))
    (fRet (fK (.bl false)))
    fNext)
    (fSeq (fAppend 6 (fCons (fK (.str "")) fNil))
    (fIf (fTb (fOp2V gNe (fCall 2 m__law_asked (fCons (fVar 3) (fCons (fVar 4) fNil))) (vVar 7)))
    (fRet (fK (.bl false)))
    fNext))))))))))
def b_law : Ev → RS :=
  (fSeq (fFor (fItN rng1 (fCons (fI (vOpN gMax2 (vCons (vK (.int 1)) (vCons (vOpN gMin2 (vCons (vK (.int 3)) (vCons (vOpN gLen (vCons (vVar 0) vNil)) vNil))) vNil)))) fNil)) (gN 1) l_law_1)
    (fRet (fK (.bl true))))
def m_law : Fn := semOf (List.replicate 1 false) 9 b_law
abbrev s__law_word : Stmt := top 45
theorem sc__law_word : FnScope ["_law_e", "_law_named", "_law_words", "_law_some", "_law_k"] ["_law_e"] (defScope s__law_word) := ⟨rfl, rfl, rfl, by decide +kernel, rfl, by decide +kernel, by decide +kernel⟩
structure Bi (mg : Str → Option Value) : Prop where
  ValueError : mg "ValueError" = none
  abs : mg "abs" = none
  all : mg "all" = none
  any : mg "any" = none
  bool : mg "bool" = none
  dict : mg "dict" = none
  enumerate : mg "enumerate" = none
  int : mg "int" = none
  isinstance : mg "isinstance" = none
  len : mg "len" = none
  list : mg "list" = none
  max : mg "max" = none
  min : mg "min" = none
  range : mg "range" = none
  sorted : mg "sorted" = none
  str : mg "str" = none
  sum : mg "sum" = none
  tuple : mg "tuple" = none
  c_LETTERS : ∃ t, mg "LETTERS" = some (.str "abcdefghijklmnopqrstuvwxyz" t)
  c_FEWEST_HANDS : ∃ t, mg "FEWEST_HANDS" = some (.int 2 t)
  c_MOST_HANDS : ∃ t, mg "MOST_HANDS" = some (.int 4 t)
  c_MOST_LETTERS : ∃ t, mg "MOST_LETTERS" = some (.int 6 t)
  c_MOST_ORDERS : ∃ t, mg "MOST_ORDERS" = some (.int 500 t)
section
variable {P : Program} {w : World} {K : PySem.W.Frag} {mg : Str → Option Value} {base : Heap} {CH x0 x1 x2 x3 x4 x5 x6 x7 x8 x9 x10 x11 x12 x13 x14 : Addr}
theorem ok__law_word {f : Addr} {fd : FuncData} (F : Fun K "_law_word" "_law_word" s__law_word f fd) (hm : mg "_law_word" = some (.ref f)) (B : Bi mg) (XT : ETx K mg CH [x0, x1, x2, x3, x4, x5, x6, x7, x8, x9, x10, x11, x12, x13, x14]) : CalH P w K mg base [x0, x1, x2, x3, x4, x5, x6, x7, x8, x9, x10, x11, x12, x13, x14] "_law_word" 2 := by
  refine ⟨f, fd, ["_law_e"], fnHp_word (k := 1) (n := 5) (g := b_word) F sc__law_word rfl rfl (fun cdv A outer s H E p i C hi hc hd hot hr => ?_) word_sem, hm, F.kp, F.binds fun _ _ _ _ _ _ us hl => match us, hl with | [_], _ => rfl⟩
  have hv : ∃ vs, p.2.data = .fields vs := let ⟨_, vs, e, _⟩ := hot; ⟨vs, e⟩
  have eC := XT.tab.ent C (List.mem_of_getElem? hi)
  have hp : p ∈ (L2H.cxH (L2N.CX P w) P w K mg base ["_law_e", "_law_named", "_law_words", "_law_some", "_law_k"] "_law_word" (defScope s__law_word) f cdv A outer s H E p).pn := List.mem_singleton.mpr rfl
  unfold b_word
  exact (dss_cons (ds_set (ps_set (i := 1) sc__law_word.nd rfl (by first | exact Or.inl rfl | exact Or.inr rfl) (de_lst (da_cons (de_ofV (dv_isE (a := p.1) (oe := p.2) XT.tab eC hp hc hd hv (XT.tab.kit (j := 0) hi rfl) (by rfl) B.isinstance (pv 0) (pe_glob (v := .ref x0) (by rfl) (XT.tab.g 0 _ _ rfl rfl) rfl) (fun _ r => r))) (da_cons (de_ofV (dv_isE (a := p.1) (oe := p.2) XT.tab eC hp hc hd hv (XT.tab.kit (j := 1) hi rfl) (by rfl) B.isinstance (pv 0) (pe_glob (v := .ref x1) (by rfl) (XT.tab.g 1 _ _ rfl rfl) rfl) (fun _ r => r))) (da_cons (de_ofV (dv_isE (a := p.1) (oe := p.2) XT.tab eC hp hc hd hv (XT.tab.kit (j := 2) hi rfl) (by rfl) B.isinstance (pv 0) (pe_glob (v := .ref x2) (by rfl) (XT.tab.g 2 _ _ rfl rfl) rfl) (fun _ r => r))) (da_cons (de_ofV (dv_isE (a := p.1) (oe := p.2) XT.tab eC hp hc hd hv (XT.tab.kit (j := 3) hi rfl) (by rfl) B.isinstance (pv 0) (pe_glob (v := .ref x3) (by rfl) (XT.tab.g 3 _ _ rfl rfl) rfl) (fun _ r => r))) da_nil)))))) (by decide))
      (dss_cons (ds_set (ps_set (i := 1) sc__law_word.nd rfl (by first | exact Or.inl rfl | exact Or.inr rfl) (de_opEV op_addU vAdd (de_var (pv 1)) (dv_lst (dav_cons (dv_isE (a := p.1) (oe := p.2) XT.tab eC hp hc hd hv (XT.tab.kit (j := 4) hi rfl) (by rfl) B.isinstance (pv 0) (pe_glob (v := .ref x4) (by rfl) (XT.tab.g 4 _ _ rfl rfl) rfl) (fun _ r => r)) (dav_cons (dv_isE (a := p.1) (oe := p.2) XT.tab eC hp hc hd hv (XT.tab.kit (j := 5) hi rfl) (by rfl) B.isinstance (pv 0) (pe_glob (v := .ref x5) (by rfl) (XT.tab.g 5 _ _ rfl rfl) rfl) (fun _ r => r)) (dav_cons (dv_isE (a := p.1) (oe := p.2) XT.tab eC hp hc hd hv (XT.tab.kit (j := 6) hi rfl) (by rfl) B.isinstance (pv 0) (pe_glob (v := .ref x6) (by rfl) (XT.tab.g 6 _ _ rfl rfl) rfl) (fun _ r => r)) (dav_cons (dv_isE (a := p.1) (oe := p.2) XT.tab eC hp hc hd hv (XT.tab.kit (j := 7) hi rfl) (by rfl) B.isinstance (pv 0) (pe_glob (v := .ref x7) (by rfl) (XT.tab.g 7 _ _ rfl rfl) rfl) (fun _ r => r)) dav_nil))))))) (by decide))
      (dss_cons (ds_set (ps_set (i := 1) sc__law_word.nd rfl (by first | exact Or.inl rfl | exact Or.inr rfl) (de_opEV op_addU vAdd (de_var (pv 1)) (dv_lst (dav_cons (dv_isE (a := p.1) (oe := p.2) XT.tab eC hp hc hd hv (XT.tab.kit (j := 8) hi rfl) (by rfl) B.isinstance (pv 0) (pe_glob (v := .ref x8) (by rfl) (XT.tab.g 8 _ _ rfl rfl) rfl) (fun _ r => r)) (dav_cons (dv_isE (a := p.1) (oe := p.2) XT.tab eC hp hc hd hv (XT.tab.kit (j := 9) hi rfl) (by rfl) B.isinstance (pv 0) (pe_glob (v := .ref x9) (by rfl) (XT.tab.g 9 _ _ rfl rfl) rfl) (fun _ r => r)) (dav_cons (dv_isE (a := p.1) (oe := p.2) XT.tab eC hp hc hd hv (XT.tab.kit (j := 10) hi rfl) (by rfl) B.isinstance (pv 0) (pe_glob (v := .ref x10) (by rfl) (XT.tab.g 10 _ _ rfl rfl) rfl) (fun _ r => r)) (dav_cons (dv_isE (a := p.1) (oe := p.2) XT.tab eC hp hc hd hv (XT.tab.kit (j := 11) hi rfl) (by rfl) B.isinstance (pv 0) (pe_glob (v := .ref x11) (by rfl) (XT.tab.g 11 _ _ rfl rfl) rfl) (fun _ r => r)) dav_nil))))))) (by decide))
      (dss_cons (ds_set (ps_set (i := 1) sc__law_word.nd rfl (by first | exact Or.inl rfl | exact Or.inr rfl) (de_opEV op_addU vAdd (de_var (pv 1)) (dv_lst (dav_cons (dv_isE (a := p.1) (oe := p.2) XT.tab eC hp hc hd hv (XT.tab.kit (j := 12) hi rfl) (by rfl) B.isinstance (pv 0) (pe_glob (v := .ref x12) (by rfl) (XT.tab.g 12 _ _ rfl rfl) rfl) (fun _ r => r)) (dav_cons (dv_isE (a := p.1) (oe := p.2) XT.tab eC hp hc hd hv (XT.tab.kit (j := 13) hi rfl) (by rfl) B.isinstance (pv 0) (pe_glob (v := .ref x13) (by rfl) (XT.tab.g 13 _ _ rfl rfl) rfl) (fun _ r => r)) (dav_cons (dv_isE (a := p.1) (oe := p.2) XT.tab eC hp hc hd hv (XT.tab.kit (j := 14) hi rfl) (by rfl) B.isinstance (pv 0) (pe_glob (v := .ref x14) (by rfl) (XT.tab.g 14 _ _ rfl rfl) rfl) (fun _ r => r)) dav_nil)))))) (by decide))
      (dss_cons (ds_set (ps_set (i := 2) sc__law_word.nd rfl (by first | exact Or.inl rfl | exact Or.inr rfl) (de_lst (da_cons (de_k pe_str fun _ _ => .str) (da_cons (de_k pe_str fun _ _ => .str) (da_cons (de_k pe_str fun _ _ => .str) (da_cons (de_k pe_str fun _ _ => .str) (da_cons (de_k pe_str fun _ _ => .str) (da_cons (de_k pe_str fun _ _ => .str) (da_cons (de_k pe_str fun _ _ => .str) (da_cons (de_k pe_str fun _ _ => .str) (da_cons (de_k pe_str fun _ _ => .str) (da_cons (de_k pe_str fun _ _ => .str) da_nil)))))))))))) (by decide))
      (dss_cons (ds_set (ps_set (i := 2) sc__law_word.nd rfl (by first | exact Or.inl rfl | exact Or.inr rfl) (de_opEV op_addU vAdd (de_var (pv 2)) (dv_lst (dav_cons (dv_k pe_str fun _ _ => .str) (dav_cons (dv_k pe_str fun _ _ => .str) (dav_cons (dv_k pe_str fun _ _ => .str) (dav_cons (dv_k pe_str fun _ _ => .str) (dav_cons (dv_k pe_str fun _ _ => .str) dav_nil)))))))) (by decide))
      (dss_cons (ds_setLcH (RX := RX0) (W := fun _ _ _ _ => False) (kpo := []) rfl (HotLc.ps_setLcH (q := p) (i := 3) (own := [("_law_k", 4)]) (g := tG _ [0, 1, 2, 3] _) hot hp sc__law_word.nd rfl rfl (sw_true rfl rfl rfl (by decide +kernel)) (dih_range1 (by rfl) B.range (da_cons (de_k pe_int fun _ _ => .int) da_nil)) (blkOk_by (own := [("_law_k", 4)]) (by kernel_rfl)) (fun _ _ _ _ _ => (dg_name (pg_name (i := 4) sc__law_word.nd rfl (by first | exact Or.inl rfl | exact Or.inr rfl)) (by decide))) (fun _ _ _ _ _ => (dts_one (dt_valV (dv_ixU (room1H hr) (dv_var (pv 1)) (dv_var (pv 4)) (fun _ _ => rfl))))) (fun _ _ _ _ _ => (de_ofV (dv_ixU (room1H hr) (dv_var (pv 2)) (dv_var (pv 4)) (fun _ _ => rfl))))) (by decide))
      (dss_cons (ds_if (PW.pt (dw_or (dt_cmpV (op_neU (room64H hr)) vNe (dv_callB (pe_callB call_lenU (by rfl) B.len boot_len (dav_cons (dv_var (pv 3)) dav_nil)) vLen) (dv_k pe_int fun _ _ => .int) (nomark _)) (dw_or1 (dt_not (dt_valV (dv_isE (a := p.1) (oe := p.2) XT.tab eC hp hc hd hv (XT.tab.kitV hi) (by rfl) B.isinstance (pv 0) (pe_bltn (v := .ty "ValueError") (by rfl) B.ValueError PyProof.Rows.Boot.ValueError rfl) (fun _ r => r))))))) (dss_one (ds_ret (de_k pe_str fun _ _ => .str))) dss_nil)
      (dss_one (ds_ret (de_ofV (dv_ixU (room1H hr) (dv_var (pv 3)) (dv_k pe_int fun _ _ => .int) (fun _ _ => rfl)))))))))))))
theorem ok__law_bag {f : Addr} {fd : FuncData} (F : Fun K "_law_bag" "_law_bag" s__law_bag f fd) (hm : mg "_law_bag" = some (.ref f)) (B : Bi mg) (XT : ETx K mg CH [x0, x1, x2, x3, x4, x5, x6, x7, x8, x9, x10, x11, x12, x13, x14]) (C__law_word : CalH P w K mg base [x0, x1, x2, x3, x4, x5, x6, x7, x8, x9, x10, x11, x12, x13, x14] "_law_word" 2)  : Cal P w K mg base (RXP [x0, x1, x2, x3, x4, x5, x6, x7, x8, x9, x10, x11, x12, x13, x14]) "_law_bag" 1 (List.replicate 1 false) m__law_bag := by
  refine ⟨f, fd, ["_law_cell_here"], fn_ok (k := 0) F sc__law_bag rfl rfl fun cdv A outer s H E hr => ?_, hm, F.kp, F.binds fun _ _ _ _ _ _ us hl => match us, hl with | [_], _ => rfl⟩
  unfold b__law_bag
  exact (dss_cons (ds_if (dt_cmpV op_geU vGe (dv_callB (pe_callB call_abs (by rfl) B.abs boot_abs (dav_cons (dv_var (pv 0)) dav_nil)) vAbs) (dv_op op_pow vPow (dv_k pe_int fun _ _ => .int) (dv_k pe_int fun _ _ => .int)) (nomark _))
      (dss_one (ds_ret (de_lst (da_cons (de_ofV (dv_callB (pe_callB call_abs (by rfl) B.abs boot_abs (dav_cons (dv_var (pv 0)) dav_nil)) vAbs)) (da_cons (de_k pe_int fun _ _ => .int) da_nil)))))
      dss_nil)
      (dss_one (ds_ret (de_lst (da_cons (de_ofV (dv_op op_modN vMod (dv_var (pv 0)) (dv_k pe_int fun _ _ => .int))) (da_cons (de_k pe_int fun _ _ => .int) da_nil))))))
theorem ok__law_take {f : Addr} {fd : FuncData} (F : Fun K "_law_take" "_law_take" s__law_take f fd) (hm : mg "_law_take" = some (.ref f)) (B : Bi mg) (XT : ETx K mg CH [x0, x1, x2, x3, x4, x5, x6, x7, x8, x9, x10, x11, x12, x13, x14]) (C__law_word : CalH P w K mg base [x0, x1, x2, x3, x4, x5, x6, x7, x8, x9, x10, x11, x12, x13, x14] "_law_word" 2)  : Cal P w K mg base (RXP [x0, x1, x2, x3, x4, x5, x6, x7, x8, x9, x10, x11, x12, x13, x14]) "_law_take" 1 (true :: List.replicate 1 false) m__law_take := by
  refine ⟨f, fd, ["_law_bag_here", "_law_many"], fn_ok (k := 0) F sc__law_take rfl rfl fun cdv A outer s H E hr => ?_, hm, F.kp, F.binds fun _ _ _ _ _ _ us hl => match us, hl with | [_, _], _ => rfl⟩
  unfold b__law_take
  exact (dss_cons (ds_if (dt_cmpV (op_eqU (room64 hr)) vEq (dv_ixU (room1 hr) (dv_var (pv 0)) (dv_k pe_int fun _ _ => .int) (fun _ _ => rfl)) (dv_k pe_int fun _ _ => .int) (nomark _))
      (dss_cons (ds_set (ps_set (i := 2) sc__law_take.nd rfl (by first | exact Or.inl rfl | exact Or.inr rfl) (de_ofV (dv_op op_modN vMod (dv_ixU (room1 hr) (dv_var (pv 0)) (dv_k pe_int fun _ _ => .int) (fun _ _ => rfl)) (dv_var (pv 1))))) (by decide))
      (dss_cons (ds_setL (ps_asg (de_ofV (dv_op op_fdivX vFdiv (dv_ixU (room1 hr) (dv_var (pv 0)) (dv_k pe_int fun _ _ => .int) (fun _ _ => rfl)) (dv_var (pv 1)))) (pg_sub (pv 0) (de_k pe_int fun _ _ => .int) set_list)))
      (dss_one (ds_ret (de_mv (pv 2))))))
      dss_nil)
      (dss_cons (ds_setL (ps_asg (de_ofV (dv_op op_modN vMod (dv_op op_addU vAdd (dv_op op_addU vAdd (dv_op op_mul vMul (dv_ixU (room1 hr) (dv_var (pv 0)) (dv_k pe_int fun _ _ => .int) (fun _ _ => rfl)) (dv_k pe_int fun _ _ => .int)) (dv_op op_mul vMul (dv_op op_mul vMul (dv_k pe_int fun _ _ => .int) (dv_ixU (room1 hr) (dv_var (pv 0)) (dv_k pe_int fun _ _ => .int) (fun _ _ => rfl))) (dv_ixU (room1 hr) (dv_var (pv 0)) (dv_k pe_int fun _ _ => .int) (fun _ _ => rfl)))) (dv_k pe_int fun _ _ => .int)) (dv_k pe_int fun _ _ => .int))) (pg_sub (pv 0) (de_k pe_int fun _ _ => .int) set_list)))
      (dss_cons (ds_setL (ps_asg (de_ofV (dv_op op_addU vAdd (dv_ixU (room1 hr) (dv_var (pv 0)) (dv_k pe_int fun _ _ => .int) (fun _ _ => rfl)) (dv_k pe_int fun _ _ => .int))) (pg_sub (pv 0) (de_k pe_int fun _ _ => .int) set_list)))
      (dss_one (ds_ret (de_ofV (dv_op op_modN vMod (dv_op op_fdivX vFdiv (dv_op op_modN vMod (dv_op op_mul vMul (dv_ixU (room1 hr) (dv_var (pv 0)) (dv_k pe_int fun _ _ => .int) (fun _ _ => rfl)) (dv_k pe_int fun _ _ => .int)) (dv_k pe_int fun _ _ => .int)) (dv_k pe_int fun _ _ => .int)) (dv_var (pv 1)))))))))
theorem ok__law_house {f : Addr} {fd : FuncData} (F : Fun K "_law_house" "_law_house" s__law_house f fd) (hm : mg "_law_house" = some (.ref f)) (B : Bi mg) (XT : ETx K mg CH [x0, x1, x2, x3, x4, x5, x6, x7, x8, x9, x10, x11, x12, x13, x14]) (C__law_word : CalH P w K mg base [x0, x1, x2, x3, x4, x5, x6, x7, x8, x9, x10, x11, x12, x13, x14] "_law_word" 2) (C__law_take : Cal P w K mg base (RXP [x0, x1, x2, x3, x4, x5, x6, x7, x8, x9, x10, x11, x12, x13, x14]) "_law_take" 1 (true :: List.replicate 1 false) m__law_take) : Cal P w K mg base (RXP [x0, x1, x2, x3, x4, x5, x6, x7, x8, x9, x10, x11, x12, x13, x14]) "_law_house" 2 (true :: List.replicate 0 false) m__law_house := by
  refine ⟨f, fd, ["_law_bag_here"], fn_ok (k := 1) F sc__law_house rfl rfl fun cdv A outer s H E hr => ?_, hm, F.kp, F.binds fun _ _ _ _ _ _ us hl => match us, hl with | [_], _ => rfl⟩
  unfold b__law_house
  exact (dss_cons (ds_set (ps_set (i := 1) sc__law_house.nd rfl (by first | exact Or.inl rfl | exact Or.inr rfl) (de_op op_addU vAdd (de_k pe_int fun _ _ => .int) (de_callIOC C__law_take hr (by decide) rfl (L2N.takes_of rfl rfl rfl rfl) (pv 0) (da_cons (de_k pe_int fun _ _ => .int) da_nil)))) (by decide))
      (dss_cons (ds_set (ps_set (i := 2) sc__law_house.nd rfl (by first | exact Or.inl rfl | exact Or.inr rfl) (de_op op_addU vAdd (de_k pe_int fun _ _ => .int) (de_callIOC C__law_take hr (by decide) rfl (L2N.takes_of rfl rfl rfl rfl) (pv 0) (da_cons (de_k pe_int fun _ _ => .int) da_nil)))) (by decide))
      (dss_cons (ds_set (ps_set (i := 3) sc__law_house.nd rfl (by first | exact Or.inl rfl | exact Or.inr rfl) (de_callIOC C__law_take hr (by decide) rfl (L2N.takes_of rfl rfl rfl rfl) (pv 0) (da_cons (de_k pe_int fun _ _ => .int) da_nil))) (by decide))
      (dss_cons (ds_set (ps_set (i := 4) sc__law_house.nd rfl (by first | exact Or.inl rfl | exact Or.inr rfl) (de_lst da_nil)) (by decide))
      (dss_cons (ds_set (ps_set (i := 5) sc__law_house.nd rfl (by first | exact Or.inl rfl | exact Or.inr rfl) (de_k pe_int fun _ _ => .int)) (by decide))
      (dss_cons (ds_for (passes_of rfl) rfl (di_range1 (by rfl) B.range (da_cons (de_var (pv 2)) da_nil)) (dg_name (pg_name (i := 6) sc__law_house.nd rfl (by first | exact Or.inl rfl | exact Or.inr rfl)) (by decide))
      (dss_cons (ds_set (ps_set (i := 5) sc__law_house.nd rfl (by first | exact Or.inl rfl | exact Or.inr rfl) (de_op op_addU vAdd (de_var (pv 5)) (de_callIOC C__law_take hr (by decide) rfl (L2N.takes_of rfl rfl rfl rfl) (pv 0) (da_cons (de_ofV (dv_op op_sub vSub (dv_op op_addU vAdd (dv_op op_sub vSub (dv_k pe_int fun _ _ => .int) (dv_var (pv 2))) (dv_var (pv 6))) (dv_var (pv 5)))) da_nil)))) (by decide))
      (dss_cons (ds_set (ps_set (i := 7) sc__law_house.nd rfl (by first | exact Or.inl rfl | exact Or.inr rfl) (de_op op_addU vAdd (de_k pe_int fun _ _ => .int) (de_callIOC C__law_take hr (by decide) rfl (L2N.takes_of rfl rfl rfl rfl) (pv 0) (da_cons (de_ofV (dv_op op_sub vSub (dv_op op_shl vShl (dv_k pe_int fun _ _ => .int) (dv_var (pv 1))) (dv_k pe_int fun _ _ => .int))) da_nil)))) (by decide))
      (dss_cons (ds_if (dt_cmpV (op_eqU (room64 hr)) vEq (dv_var (pv 3)) (dv_k pe_int fun _ _ => .int) (nomark _))
      (dss_one (ds_set (ps_set (i := 7) sc__law_house.nd rfl (by first | exact Or.inl rfl | exact Or.inr rfl) (de_op op_or vBor (de_op op_shl vShl (de_k pe_int fun _ _ => .int) (de_callIOC C__law_take hr (by decide) rfl (L2N.takes_of rfl rfl rfl rfl) (pv 0) (da_cons (de_var (pv 1)) da_nil))) (de_op op_shl vShl (de_k pe_int fun _ _ => .int) (de_callIOC C__law_take hr (by decide) rfl (L2N.takes_of rfl rfl rfl rfl) (pv 0) (da_cons (de_var (pv 1)) da_nil))))) (by decide)))
      dss_nil)
      (dss_cons (ds_append (ps_expr (pe_bm PySem.F.plainAttrs_list PySem.F.slot_list_append PySem.F.type_list_append mt_append (pv 4) (da_cons (de_tup (da_cons (de_ofV (dv_ixU (room1 hr) (dv_k pe_str fun _ _ => .str) (dv_var (pv 5)) (fun _ _ => rfl))) (da_cons (de_lc rfl (pe_lc (own := [("_law_hand", 8)]) (g := tG _ [0, 1, 2, 3, 4, 5, 6, 7] _) rfl sc__law_house.nd (di_range1 (by rfl) B.range (da_cons (de_var (pv 1)) da_nil)) (blkOk_by (own := [("_law_hand", 8)]) (by kernel_rfl)) (fun _ _ _ _ _ => (dg_name (pg_name (i := 8) sc__law_house.nd rfl (by first | exact Or.inl rfl | exact Or.inr rfl)) (by decide))) (fun _ _ _ _ _ => (dts_one (dt_cmpV (op_eqU (room64 hr)) vEq (dv_op op_and vBand (dv_op op_shr vShr (dv_var (pv 7)) (dv_var (pv 8))) (dv_k pe_int fun _ _ => .int)) (dv_k pe_int fun _ _ => .int) (nomark _)))) (fun _ _ _ _ _ => (de_var (pv 8))))) da_nil))) da_nil))))
      (dss_one (ds_set (ps_set (i := 5) sc__law_house.nd rfl (by first | exact Or.inl rfl | exact Or.inr rfl) (de_ofV (dv_op op_addU vAdd (dv_var (pv 5)) (dv_k pe_int fun _ _ => .int)))) (by decide))))))))
      (dss_one (ds_ret (de_tup (da_consL (pv 1) (da_consL (pv 4) da_nil)))))))))))
theorem ok__law_row {f : Addr} {fd : FuncData} (F : Fun K "_law_row" "_law_row" s__law_row f fd) (hm : mg "_law_row" = some (.ref f)) (B : Bi mg) (XT : ETx K mg CH [x0, x1, x2, x3, x4, x5, x6, x7, x8, x9, x10, x11, x12, x13, x14]) (C__law_word : CalH P w K mg base [x0, x1, x2, x3, x4, x5, x6, x7, x8, x9, x10, x11, x12, x13, x14] "_law_word" 2) (C__law_take : Cal P w K mg base (RXP [x0, x1, x2, x3, x4, x5, x6, x7, x8, x9, x10, x11, x12, x13, x14]) "_law_take" 1 (true :: List.replicate 1 false) m__law_take) : Cal P w K mg base (RXP [x0, x1, x2, x3, x4, x5, x6, x7, x8, x9, x10, x11, x12, x13, x14]) "_law_row" 2 (true :: List.replicate 2 false) m__law_row := by
  refine ⟨f, fd, ["_law_bag_here", "_law_house_here", "_law_most"], fn_ok (k := 1) F sc__law_row rfl rfl fun cdv A outer s H E hr => ?_, hm, F.kp, F.binds fun _ _ _ _ _ _ us hl => match us, hl with | [_, _, _], _ => rfl⟩
  unfold b__law_row
  exact (dss_cons (ds_set (ps_set (i := 3) sc__law_row.nd rfl (by first | exact Or.inl rfl | exact Or.inr rfl) (de_callIOC C__law_take hr (by decide) rfl (L2N.takes_of rfl rfl rfl rfl) (pv 0) (da_cons (de_ofV (dv_op op_addU vAdd (dv_var (pv 2)) (dv_k pe_int fun _ _ => .int))) da_nil))) (by decide))
      (dss_cons (ds_if (dt_cmpEV (op_eqU (room64 hr)) vEq (de_callIOC C__law_take hr (by decide) rfl (L2N.takes_of rfl rfl rfl rfl) (pv 0) (da_cons (de_k pe_int fun _ _ => .int) da_nil)) (dv_k pe_int fun _ _ => .int) (nomark _))
      (dss_one (ds_set (ps_set (i := 3) sc__law_row.nd rfl (by first | exact Or.inl rfl | exact Or.inr rfl) (de_callIOC C__law_take hr (by decide) rfl (L2N.takes_of rfl rfl rfl rfl) (pv 0) (da_cons (de_k pe_int fun _ _ => .int) da_nil))) (by decide)))
      dss_nil)
      (dss_cons (ds_set (ps_set (i := 4) sc__law_row.nd rfl (by first | exact Or.inl rfl | exact Or.inr rfl) (de_k pe_str fun _ _ => .str)) (by decide))
      (dss_cons (ds_for (passes_of rfl) rfl (di_range1 (by rfl) B.range (da_cons (de_var (pv 3)) da_nil)) (dg_name (pg_name (i := 5) sc__law_row.nd rfl (by first | exact Or.inl rfl | exact Or.inr rfl)) (by decide))
      (dss_one (ds_set (ps_set (i := 4) sc__law_row.nd rfl (by first | exact Or.inl rfl | exact Or.inr rfl) (de_op op_addU vAdd (de_var (pv 4)) (de_ixU (room1 hr) (de_ixU (room1 hr) (de_ofV (dv_ixU (room1 hr) (dv_var (pv 1)) (dv_k pe_int fun _ _ => .int) (fun _ _ => rfl))) (de_callIOC C__law_take hr (by decide) rfl (L2N.takes_of rfl rfl rfl rfl) (pv 0) (da_cons (de_ofV (dv_callB (pe_callB call_lenU (by rfl) B.len boot_len (dav_cons (dv_ixU (room1 hr) (dv_var (pv 1)) (dv_k pe_int fun _ _ => .int) (fun _ _ => rfl)) dav_nil)) vLen)) da_nil)) (fun _ _ => rfl)) (de_k pe_int fun _ _ => .int) (fun _ _ => rfl)))) (by decide))))
      (dss_one (ds_ret (de_mv (pv 4))))))))
theorem ok__law_drawn {f : Addr} {fd : FuncData} (F : Fun K "_law_drawn" "_law_drawn" s__law_drawn f fd) (hm : mg "_law_drawn" = some (.ref f)) (B : Bi mg) (XT : ETx K mg CH [x0, x1, x2, x3, x4, x5, x6, x7, x8, x9, x10, x11, x12, x13, x14]) (C__law_word : CalH P w K mg base [x0, x1, x2, x3, x4, x5, x6, x7, x8, x9, x10, x11, x12, x13, x14] "_law_word" 2) (C__law_row : Cal P w K mg base (RXP [x0, x1, x2, x3, x4, x5, x6, x7, x8, x9, x10, x11, x12, x13, x14]) "_law_row" 2 (true :: List.replicate 2 false) m__law_row) (C__law_house : Cal P w K mg base (RXP [x0, x1, x2, x3, x4, x5, x6, x7, x8, x9, x10, x11, x12, x13, x14]) "_law_house" 2 (true :: List.replicate 0 false) m__law_house) (C__law_bag : Cal P w K mg base (RXP [x0, x1, x2, x3, x4, x5, x6, x7, x8, x9, x10, x11, x12, x13, x14]) "_law_bag" 1 (List.replicate 1 false) m__law_bag) : Cal P w K mg base (RXP [x0, x1, x2, x3, x4, x5, x6, x7, x8, x9, x10, x11, x12, x13, x14]) "_law_drawn" 3 (List.replicate 2 false) m__law_drawn := by
  refine ⟨f, fd, ["_law_cell_here", "_law_most"], fn_ok (k := 2) F sc__law_drawn rfl rfl fun cdv A outer s H E hr => ?_, hm, F.kp, F.binds fun _ _ _ _ _ _ us hl => match us, hl with | [_, _], _ => rfl⟩
  unfold b__law_drawn
  exact (dss_cons (ds_set (ps_set (i := 2) sc__law_drawn.nd rfl (by first | exact Or.inl rfl | exact Or.inr rfl) (de_callC C__law_bag hr (by decide) rfl (L2N.takes_of rfl rfl rfl rfl) (da_cons (de_var (pv 0)) da_nil))) (by decide))
      (dss_cons (ds_set (ps_set (i := 3) sc__law_drawn.nd rfl (by first | exact Or.inl rfl | exact Or.inr rfl) (de_callIOC C__law_house hr (by decide) rfl (L2N.takes_of rfl rfl rfl rfl) (pv 2) da_nil)) (by decide))
      (dss_one (ds_ret (de_tup (da_consL (pv 2) (da_consL (pv 3) (da_cons (de_callIOC C__law_row hr (by decide) rfl (L2N.takes_of rfl rfl rfl rfl) (pv 2) (da_cons (de_var (pv 3)) (da_cons (de_var (pv 1)) da_nil))) da_nil))))))))
theorem ok_is_whole {f : Addr} {fd : FuncData} (F : Fun K "is_whole" "is_whole" s_is_whole f fd) (hm : mg "is_whole" = some (.ref f)) (B : Bi mg) (XT : ETx K mg CH [x0, x1, x2, x3, x4, x5, x6, x7, x8, x9, x10, x11, x12, x13, x14]) (C__law_word : CalH P w K mg base [x0, x1, x2, x3, x4, x5, x6, x7, x8, x9, x10, x11, x12, x13, x14] "_law_word" 2)  : Cal P w K mg base (RXP [x0, x1, x2, x3, x4, x5, x6, x7, x8, x9, x10, x11, x12, x13, x14]) "is_whole" 1 (List.replicate 1 false) m_is_whole := by
  refine ⟨f, fd, ["thing"], fn_ok (k := 0) F sc_is_whole rfl rfl fun cdv A outer s H E hr => ?_, hm, F.kp, F.binds fun _ _ _ _ _ _ us hl => match us, hl with | [_], _ => rfl⟩
  unfold b_is_whole
  exact (dss_one (ds_ret (de_and (de_ofV (dv_callB (pe_callB call_isi (by rfl) B.isinstance boot_isinstance (dav_cons (dv_var (pv 0)) (dav_cons (dv_k (pe_bltn (v := .ty "int") (by rfl) B.int boot_int rfl) fun _ _ => .gv) dav_nil))) vIsi)) (de_one (de_not (de_ofV (dv_callB (pe_callB call_isi (by rfl) B.isinstance boot_isinstance (dav_cons (dv_var (pv 0)) (dav_cons (dv_k (pe_bltn (v := .ty "bool") (by rfl) B.bool boot_bool rfl) fun _ _ => .gv) dav_nil))) vIsi)))))))
theorem ok_is_sign {f : Addr} {fd : FuncData} (F : Fun K "is_sign" "is_sign" s_is_sign f fd) (hm : mg "is_sign" = some (.ref f)) (B : Bi mg) (XT : ETx K mg CH [x0, x1, x2, x3, x4, x5, x6, x7, x8, x9, x10, x11, x12, x13, x14]) (C__law_word : CalH P w K mg base [x0, x1, x2, x3, x4, x5, x6, x7, x8, x9, x10, x11, x12, x13, x14] "_law_word" 2)  : Cal P w K mg base (RXP [x0, x1, x2, x3, x4, x5, x6, x7, x8, x9, x10, x11, x12, x13, x14]) "is_sign" 1 (List.replicate 1 false) m_is_sign := by
  refine ⟨f, fd, ["thing"], fn_ok (k := 0) F sc_is_sign rfl rfl fun cdv A outer s H E hr => ?_, hm, F.kp, F.binds fun _ _ _ _ _ _ us hl => match us, hl with | [_], _ => rfl⟩
  unfold b_is_sign
  exact (dss_one (ds_ret (de_and (de_ofV (dv_callB (pe_callB call_isi (by rfl) B.isinstance boot_isinstance (dav_cons (dv_var (pv 0)) (dav_cons (dv_k (pe_bltn (v := .ty "str") (by rfl) B.str boot_str rfl) fun _ _ => .gv) dav_nil))) vIsi)) (de_and (de_ofV (dv_cmp (op_eqU (room64 hr)) vEq (dv_callB (pe_callB call_lenU (by rfl) B.len boot_len (dav_cons (dv_var (pv 0)) dav_nil)) vLen) (dv_k pe_int fun _ _ => .int) (nomark _))) (de_one (de_ofV (dv_cmp (op_inU (room65 hr)) vIn (dv_var (pv 0)) (dv_k (pe_globS (by rfl) B.c_LETTERS) fun _ _ => .str) rfl)))))))
theorem ok_is_rising {f : Addr} {fd : FuncData} (F : Fun K "is_rising" "is_rising" s_is_rising f fd) (hm : mg "is_rising" = some (.ref f)) (B : Bi mg) (XT : ETx K mg CH [x0, x1, x2, x3, x4, x5, x6, x7, x8, x9, x10, x11, x12, x13, x14]) (C__law_word : CalH P w K mg base [x0, x1, x2, x3, x4, x5, x6, x7, x8, x9, x10, x11, x12, x13, x14] "_law_word" 2) (C_is_whole : Cal P w K mg base (RXP [x0, x1, x2, x3, x4, x5, x6, x7, x8, x9, x10, x11, x12, x13, x14]) "is_whole" 1 (List.replicate 1 false) m_is_whole) : Cal P w K mg base (RXP [x0, x1, x2, x3, x4, x5, x6, x7, x8, x9, x10, x11, x12, x13, x14]) "is_rising" 2 (List.replicate 2 false) m_is_rising := by
  refine ⟨f, fd, ["things", "many"], fn_ok (k := 1) F sc_is_rising rfl rfl fun cdv A outer s H E hr => ?_, hm, F.kp, F.binds fun _ _ _ _ _ _ us hl => match us, hl with | [_, _], _ => rfl⟩
  unfold b_is_rising
  exact (dss_cons (ds_if (dt_not (dt_valV (dv_callB (pe_callB call_isi (by rfl) B.isinstance boot_isinstance (dav_cons (dv_var (pv 0)) (dav_cons (dv_k (pe_bltn (v := .ty "list") (by rfl) B.list PyProof.Rows.boot_list rfl) fun _ _ => .gv) dav_nil))) vIsi)))
      (dss_one (ds_ret (de_k pe_bl fun _ _ => .bl)))
      dss_nil)
      (dss_cons (ds_set (ps_set (i := 2) sc_is_rising.nd rfl (by first | exact Or.inl rfl | exact Or.inr rfl) (de_ofV (dv_un un_neg vNeg (dv_k pe_int fun _ _ => .int)))) (by decide))
      (dss_cons (ds_for (passes_of rfl) rfl (di_list (de_var (pv 0))) (dg_name (pg_name (i := 3) sc_is_rising.nd rfl (by first | exact Or.inl rfl | exact Or.inr rfl)) (by decide))
      (dss_cons (ds_if (PW.pt (dw_or (dt_not (dt_val (de_callC C_is_whole hr (by decide) rfl (L2N.takes_of rfl rfl rfl rfl) (da_cons (de_var (pv 3)) da_nil)))) (dw_or1 (dt_not (dt_chain op_ltU vLt op_ltU vLt (de_var (pv 2)) (de_var (pv 3)) (de_var (pv 1)))))))
      (dss_one (ds_ret (de_k pe_bl fun _ _ => .bl)))
      dss_nil)
      (dss_one (ds_set (ps_set (i := 2) sc_is_rising.nd rfl (by first | exact Or.inl rfl | exact Or.inr rfl) (de_var (pv 3))) (by decide)))))
      (dss_one (ds_ret (de_k pe_bl fun _ _ => .bl))))))
theorem ok_is_entry {f : Addr} {fd : FuncData} (F : Fun K "is_entry" "is_entry" s_is_entry f fd) (hm : mg "is_entry" = some (.ref f)) (B : Bi mg) (XT : ETx K mg CH [x0, x1, x2, x3, x4, x5, x6, x7, x8, x9, x10, x11, x12, x13, x14]) (C__law_word : CalH P w K mg base [x0, x1, x2, x3, x4, x5, x6, x7, x8, x9, x10, x11, x12, x13, x14] "_law_word" 2) (C_is_rising : Cal P w K mg base (RXP [x0, x1, x2, x3, x4, x5, x6, x7, x8, x9, x10, x11, x12, x13, x14]) "is_rising" 2 (List.replicate 2 false) m_is_rising) (C_is_sign : Cal P w K mg base (RXP [x0, x1, x2, x3, x4, x5, x6, x7, x8, x9, x10, x11, x12, x13, x14]) "is_sign" 1 (List.replicate 1 false) m_is_sign) : Cal P w K mg base (RXP [x0, x1, x2, x3, x4, x5, x6, x7, x8, x9, x10, x11, x12, x13, x14]) "is_entry" 3 (List.replicate 2 false) m_is_entry := by
  refine ⟨f, fd, ["thing", "hands"], fn_ok (k := 2) F sc_is_entry rfl rfl fun cdv A outer s H E hr => ?_, hm, F.kp, F.binds fun _ _ _ _ _ _ us hl => match us, hl with | [_, _], _ => rfl⟩
  unfold b_is_entry
  exact (dss_cons (ds_if (PW.pt (dw_or (dt_not (dt_valV (dv_callB (pe_callB call_isi (by rfl) B.isinstance boot_isinstance (dav_cons (dv_var (pv 0)) (dav_cons (dv_k (pe_bltn (v := .ty "tuple") (by rfl) B.tuple boot_tuple rfl) fun _ _ => .gv) dav_nil))) vIsi))) (dw_or (dt_cmpV (op_neU (room64 hr)) vNe (dv_callB (pe_callB call_lenU (by rfl) B.len boot_len (dav_cons (dv_var (pv 0)) dav_nil)) vLen) (dv_k pe_int fun _ _ => .int) (nomark _)) (dw_or1 (dt_not (dt_val (de_callC C_is_sign hr (by decide) rfl (L2N.takes_of rfl rfl rfl rfl) (da_cons (de_ofV (dv_ixU (room1 hr) (dv_var (pv 0)) (dv_k pe_int fun _ _ => .int) (fun _ _ => rfl))) da_nil))))))))
      (dss_one (ds_ret (de_k pe_bl fun _ _ => .bl)))
      dss_nil)
      (dss_one (ds_ret (de_and (de_callC C_is_rising hr (by decide) rfl (L2N.takes_of rfl rfl rfl rfl) (da_cons (de_ofV (dv_ixU (room1 hr) (dv_var (pv 0)) (dv_k pe_int fun _ _ => .int) (fun _ _ => rfl))) (da_cons (de_var (pv 1)) da_nil))) (de_one (de_ofV (dv_cmp op_gtU vGt (dv_callB (pe_callB call_lenU (by rfl) B.len boot_len (dav_cons (dv_ixU (room1 hr) (dv_var (pv 0)) (dv_k pe_int fun _ _ => .int) (fun _ _ => rfl)) dav_nil)) vLen) (dv_k pe_int fun _ _ => .int) (nomark _))))))))
theorem ok_is_house {f : Addr} {fd : FuncData} (F : Fun K "is_house" "is_house" s_is_house f fd) (hm : mg "is_house" = some (.ref f)) (B : Bi mg) (XT : ETx K mg CH [x0, x1, x2, x3, x4, x5, x6, x7, x8, x9, x10, x11, x12, x13, x14]) (C__law_word : CalH P w K mg base [x0, x1, x2, x3, x4, x5, x6, x7, x8, x9, x10, x11, x12, x13, x14] "_law_word" 2) (C_is_entry : Cal P w K mg base (RXP [x0, x1, x2, x3, x4, x5, x6, x7, x8, x9, x10, x11, x12, x13, x14]) "is_entry" 3 (List.replicate 2 false) m_is_entry) (C_is_whole : Cal P w K mg base (RXP [x0, x1, x2, x3, x4, x5, x6, x7, x8, x9, x10, x11, x12, x13, x14]) "is_whole" 1 (List.replicate 1 false) m_is_whole) : Cal P w K mg base (RXP [x0, x1, x2, x3, x4, x5, x6, x7, x8, x9, x10, x11, x12, x13, x14]) "is_house" 4 (List.replicate 1 false) m_is_house := by
  refine ⟨f, fd, ["thing"], fn_ok (k := 3) F sc_is_house rfl rfl fun cdv A outer s H E hr => ?_, hm, F.kp, F.binds fun _ _ _ _ _ _ us hl => match us, hl with | [_], _ => rfl⟩
  unfold b_is_house
  exact (dss_cons (ds_if (PW.pt (dw_or (dt_not (dt_valV (dv_callB (pe_callB call_isi (by rfl) B.isinstance boot_isinstance (dav_cons (dv_var (pv 0)) (dav_cons (dv_k (pe_bltn (v := .ty "tuple") (by rfl) B.tuple boot_tuple rfl) fun _ _ => .gv) dav_nil))) vIsi))) (dw_or1 (dt_cmpV (op_neU (room64 hr)) vNe (dv_callB (pe_callB call_lenU (by rfl) B.len boot_len (dav_cons (dv_var (pv 0)) dav_nil)) vLen) (dv_k pe_int fun _ _ => .int) (nomark _)))))
      (dss_one (ds_ret (de_k pe_bl fun _ _ => .bl)))
      dss_nil)
      (dss_cons (ds_asg (ps_asg (de_var (pv 0)) (dg_tup rfl (dgs_cons (dg_name (pg_name (i := 1) sc_is_house.nd rfl (by first | exact Or.inl rfl | exact Or.inr rfl)) (by decide)) (dgs_cons (dg_name (pg_name (i := 2) sc_is_house.nd rfl (by first | exact Or.inl rfl | exact Or.inr rfl)) (by decide)) dgs_nil)))))
      (dss_cons (ds_if (PW.pt (dw_or (dt_not (dt_val (de_callC C_is_whole hr (by decide) rfl (L2N.takes_of rfl rfl rfl rfl) (da_cons (de_var (pv 1)) da_nil)))) (dw_or1 (dt_not (dt_chain op_leU vLe op_leU vLe (de_k (pe_globI (by rfl) B.c_FEWEST_HANDS) fun _ _ => .int) (de_var (pv 1)) (de_k (pe_globI (by rfl) B.c_MOST_HANDS) fun _ _ => .int))))))
      (dss_one (ds_ret (de_k pe_bl fun _ _ => .bl)))
      dss_nil)
      (dss_cons (ds_if (PW.pt (dw_or (dt_not (dt_valV (dv_callB (pe_callB call_isi (by rfl) B.isinstance boot_isinstance (dav_cons (dv_var (pv 2)) (dav_cons (dv_k (pe_bltn (v := .ty "list") (by rfl) B.list PyProof.Rows.boot_list rfl) fun _ _ => .gv) dav_nil))) vIsi))) (dw_or1 (dt_not (dt_chain op_leU vLe op_leU vLe (de_k pe_int fun _ _ => .int) (de_ofV (dv_callB (pe_callB call_lenU (by rfl) B.len boot_len (dav_cons (dv_var (pv 2)) dav_nil)) vLen)) (de_k (pe_globI (by rfl) B.c_MOST_LETTERS) fun _ _ => .int))))))
      (dss_one (ds_ret (de_k pe_bl fun _ _ => .bl)))
      dss_nil)
      (dss_cons (ds_set (ps_set (i := 3) sc_is_house.nd rfl (by first | exact Or.inl rfl | exact Or.inr rfl) (de_k pe_str fun _ _ => .str)) (by decide))
      (dss_cons (ds_for (passes_of rfl) rfl (di_list (de_var (pv 2))) (dg_name (pg_name (i := 4) sc_is_house.nd rfl (by first | exact Or.inl rfl | exact Or.inr rfl)) (by decide))
      (dss_cons (ds_if (PW.pt (dw_or (dt_not (dt_val (de_callC C_is_entry hr (by decide) rfl (L2N.takes_of rfl rfl rfl rfl) (da_cons (de_var (pv 4)) (da_cons (de_var (pv 1)) da_nil))))) (dw_or1 (dt_not (dt_cmpV op_ltU vLt (dv_var (pv 3)) (dv_ixU (room1 hr) (dv_var (pv 4)) (dv_k pe_int fun _ _ => .int) (fun _ _ => rfl)) (nomark _))))))
      (dss_one (ds_ret (de_k pe_bl fun _ _ => .bl)))
      dss_nil)
      (dss_one (ds_set (ps_set (i := 3) sc_is_house.nd rfl (by first | exact Or.inl rfl | exact Or.inr rfl) (de_ofV (dv_ixU (room1 hr) (dv_var (pv 4)) (dv_k pe_int fun _ _ => .int) (fun _ _ => rfl)))) (by decide)))))
      (dss_one (ds_ret (de_k pe_bl fun _ _ => .bl)))))))))
theorem ok_look_house {f : Addr} {fd : FuncData} (F : Fun K "look_house" "look_house" s_look_house f fd) (hm : mg "look_house" = some (.ref f)) (B : Bi mg) (XT : ETx K mg CH [x0, x1, x2, x3, x4, x5, x6, x7, x8, x9, x10, x11, x12, x13, x14]) (C__law_word : CalH P w K mg base [x0, x1, x2, x3, x4, x5, x6, x7, x8, x9, x10, x11, x12, x13, x14] "_law_word" 2) (C_is_house : Cal P w K mg base (RXP [x0, x1, x2, x3, x4, x5, x6, x7, x8, x9, x10, x11, x12, x13, x14]) "is_house" 4 (List.replicate 1 false) m_is_house) : Cal P w K mg base (RXP [x0, x1, x2, x3, x4, x5, x6, x7, x8, x9, x10, x11, x12, x13, x14]) "look_house" 5 (List.replicate 1 false) m_look_house := by
  refine ⟨f, fd, ["thing"], fn_ok (k := 4) F sc_look_house rfl rfl fun cdv A outer s H E hr => ?_, hm, F.kp, F.binds fun _ _ _ _ _ _ us hl => match us, hl with | [_], _ => rfl⟩
  unfold b_look_house
  exact (dss_one (ds_if (dt_not (dt_val (de_callC C_is_house hr (by decide) rfl (L2N.takes_of rfl rfl rfl rfl) (da_cons (de_var (pv 0)) da_nil))))
      (dss_one (ds_raise (i := 0) (C := x0) XT.tab (XT.ex 0 (by decide) (by decide) _ rfl) rfl rfl rfl (L2N.takes_of rfl rfl rfl rfl) (by rfl)))
      dss_nil))
theorem ok_letters_of {f : Addr} {fd : FuncData} (F : Fun K "letters_of" "letters_of" s_letters_of f fd) (hm : mg "letters_of" = some (.ref f)) (B : Bi mg) (XT : ETx K mg CH [x0, x1, x2, x3, x4, x5, x6, x7, x8, x9, x10, x11, x12, x13, x14]) (C__law_word : CalH P w K mg base [x0, x1, x2, x3, x4, x5, x6, x7, x8, x9, x10, x11, x12, x13, x14] "_law_word" 2)  : Cal P w K mg base (RXP [x0, x1, x2, x3, x4, x5, x6, x7, x8, x9, x10, x11, x12, x13, x14]) "letters_of" 1 (List.replicate 1 false) m_letters_of := by
  refine ⟨f, fd, ["house"], fn_ok (k := 0) F sc_letters_of rfl rfl fun cdv A outer s H E hr => ?_, hm, F.kp, F.binds fun _ _ _ _ _ _ us hl => match us, hl with | [_], _ => rfl⟩
  unfold b_letters_of
  exact (dss_one (ds_ret (de_lc rfl (pe_lc (own := [("letter", 1), ("owned", 2)]) (g := tG _ [0] _) rfl sc_letters_of.nd (di_list (de_ofV (dv_ixU (room1 hr) (dv_var (pv 0)) (dv_k pe_int fun _ _ => .int) (fun _ _ => rfl)))) (blkOk_by (own := [("letter", 1), ("owned", 2)]) (by kernel_rfl)) (fun _ _ _ _ _ => (dg_tup rfl (dgs_cons (dg_name (pg_name (i := 1) sc_letters_of.nd rfl (by first | exact Or.inl rfl | exact Or.inr rfl)) (by decide)) (dgs_cons (dg_name (pg_name (i := 2) sc_letters_of.nd rfl (by first | exact Or.inl rfl | exact Or.inr rfl)) (by decide)) dgs_nil)))) (fun _ _ _ _ _ => dts_0) (fun _ _ _ _ _ => (de_var (pv 1)))))))
theorem ok_is_row {f : Addr} {fd : FuncData} (F : Fun K "is_row" "is_row" s_is_row f fd) (hm : mg "is_row" = some (.ref f)) (B : Bi mg) (XT : ETx K mg CH [x0, x1, x2, x3, x4, x5, x6, x7, x8, x9, x10, x11, x12, x13, x14]) (C__law_word : CalH P w K mg base [x0, x1, x2, x3, x4, x5, x6, x7, x8, x9, x10, x11, x12, x13, x14] "_law_word" 2) (C_letters_of : Cal P w K mg base (RXP [x0, x1, x2, x3, x4, x5, x6, x7, x8, x9, x10, x11, x12, x13, x14]) "letters_of" 1 (List.replicate 1 false) m_letters_of) (C_look_house : Cal P w K mg base (RXP [x0, x1, x2, x3, x4, x5, x6, x7, x8, x9, x10, x11, x12, x13, x14]) "look_house" 5 (List.replicate 1 false) m_look_house) : Cal P w K mg base (RXP [x0, x1, x2, x3, x4, x5, x6, x7, x8, x9, x10, x11, x12, x13, x14]) "is_row" 6 (List.replicate 2 false) m_is_row := by
  refine ⟨f, fd, ["house", "thing"], fn_ok (k := 5) F sc_is_row rfl rfl fun cdv A outer s H E hr => ?_, hm, F.kp, F.binds fun _ _ _ _ _ _ us hl => match us, hl with | [_, _], _ => rfl⟩
  unfold b_is_row
  exact (dss_cons (ds_drop (ps_expr (de_callC C_look_house hr (by decide) rfl (L2N.takes_of rfl rfl rfl rfl) (da_cons (de_var (pv 0)) da_nil))))
      (dss_one (ds_ret (de_and (de_ofV (dv_callB (pe_callB call_isi (by rfl) B.isinstance boot_isinstance (dav_cons (dv_var (pv 1)) (dav_cons (dv_k (pe_bltn (v := .ty "str") (by rfl) B.str boot_str rfl) fun _ _ => .gv) dav_nil))) vIsi)) (de_one (de_callB (pe_callB (cr_all rfl) (by rfl) B.all boot_all (da_cons (de_lc rfl (pe_lc (own := [("sign", 2)]) (g := tG _ [0, 1] _) rfl sc_is_row.nd (di_str (de_var (pv 1))) (blkOk_by (own := [("sign", 2)]) (by kernel_rfl)) (fun _ _ _ _ _ => (dg_name (pg_name (i := 2) sc_is_row.nd rfl (by first | exact Or.inl rfl | exact Or.inr rfl)) (by decide))) (fun _ _ _ _ _ => dts_0) (fun _ _ _ _ _ => (de_cmpL (op_inU (room65 hr)) vIn (pv 2) (de_callC C_letters_of hr (by decide) rfl takesN0 (da_cons (de_var (pv 0)) da_nil)) rfl)))) da_nil)) vAll))))))
theorem ok_look_row {f : Addr} {fd : FuncData} (F : Fun K "look_row" "look_row" s_look_row f fd) (hm : mg "look_row" = some (.ref f)) (B : Bi mg) (XT : ETx K mg CH [x0, x1, x2, x3, x4, x5, x6, x7, x8, x9, x10, x11, x12, x13, x14]) (C__law_word : CalH P w K mg base [x0, x1, x2, x3, x4, x5, x6, x7, x8, x9, x10, x11, x12, x13, x14] "_law_word" 2) (C_is_row : Cal P w K mg base (RXP [x0, x1, x2, x3, x4, x5, x6, x7, x8, x9, x10, x11, x12, x13, x14]) "is_row" 6 (List.replicate 2 false) m_is_row) : Cal P w K mg base (RXP [x0, x1, x2, x3, x4, x5, x6, x7, x8, x9, x10, x11, x12, x13, x14]) "look_row" 7 (List.replicate 2 false) m_look_row := by
  refine ⟨f, fd, ["house", "thing"], fn_ok (k := 6) F sc_look_row rfl rfl fun cdv A outer s H E hr => ?_, hm, F.kp, F.binds fun _ _ _ _ _ _ us hl => match us, hl with | [_, _], _ => rfl⟩
  unfold b_look_row
  exact (dss_one (ds_if (dt_not (dt_val (de_callC C_is_row hr (by decide) rfl (L2N.takes_of rfl rfl rfl rfl) (da_cons (de_var (pv 0)) (da_cons (de_var (pv 1)) da_nil)))))
      (dss_one (ds_raise (i := 1) (C := x1) XT.tab (XT.ex 1 (by decide) (by decide) _ rfl) rfl rfl rfl (L2N.takes_of rfl rfl rfl rfl) (by rfl)))
      dss_nil))
theorem ok_look_both {f : Addr} {fd : FuncData} (F : Fun K "look_both" "look_both" s_look_both f fd) (hm : mg "look_both" = some (.ref f)) (B : Bi mg) (XT : ETx K mg CH [x0, x1, x2, x3, x4, x5, x6, x7, x8, x9, x10, x11, x12, x13, x14]) (C__law_word : CalH P w K mg base [x0, x1, x2, x3, x4, x5, x6, x7, x8, x9, x10, x11, x12, x13, x14] "_law_word" 2) (C_look_row : Cal P w K mg base (RXP [x0, x1, x2, x3, x4, x5, x6, x7, x8, x9, x10, x11, x12, x13, x14]) "look_row" 7 (List.replicate 2 false) m_look_row) (C_look_house : Cal P w K mg base (RXP [x0, x1, x2, x3, x4, x5, x6, x7, x8, x9, x10, x11, x12, x13, x14]) "look_house" 5 (List.replicate 1 false) m_look_house) : Cal P w K mg base (RXP [x0, x1, x2, x3, x4, x5, x6, x7, x8, x9, x10, x11, x12, x13, x14]) "look_both" 8 (List.replicate 2 false) m_look_both := by
  refine ⟨f, fd, ["house", "row"], fn_ok (k := 7) F sc_look_both rfl rfl fun cdv A outer s H E hr => ?_, hm, F.kp, F.binds fun _ _ _ _ _ _ us hl => match us, hl with | [_, _], _ => rfl⟩
  unfold b_look_both
  exact (dss_cons (ds_drop (ps_expr (de_callC C_look_house hr (by decide) rfl (L2N.takes_of rfl rfl rfl rfl) (da_cons (de_var (pv 0)) da_nil))))
      (dss_one (ds_drop (ps_expr (de_callC C_look_row hr (by decide) rfl (L2N.takes_of rfl rfl rfl rfl) (da_cons (de_var (pv 0)) (da_cons (de_var (pv 1)) da_nil)))))))
theorem ok_places_by_letter {f : Addr} {fd : FuncData} (F : Fun K "places_by_letter" "places_by_letter" s_places_by_letter f fd) (hm : mg "places_by_letter" = some (.ref f)) (B : Bi mg) (XT : ETx K mg CH [x0, x1, x2, x3, x4, x5, x6, x7, x8, x9, x10, x11, x12, x13, x14]) (C__law_word : CalH P w K mg base [x0, x1, x2, x3, x4, x5, x6, x7, x8, x9, x10, x11, x12, x13, x14] "_law_word" 2)  : Cal P w K mg base (RXP [x0, x1, x2, x3, x4, x5, x6, x7, x8, x9, x10, x11, x12, x13, x14]) "places_by_letter" 1 (List.replicate 2 false) m_places_by_letter := by
  refine ⟨f, fd, ["house", "row"], fn_ok (k := 0) F sc_places_by_letter rfl rfl fun cdv A outer s H E hr => ?_, hm, F.kp, F.binds fun _ _ _ _ _ _ us hl => match us, hl with | [_, _], _ => rfl⟩
  unfold b_places_by_letter
  exact (dss_one (ds_ret (de_lc rfl (pe_lc (own := [("letter", 2), ("own", 3)]) (g := tG _ [0, 1, 4, 5] _) rfl sc_places_by_letter.nd (di_list (de_ofV (dv_ixU (room1 hr) (dv_var (pv 0)) (dv_k pe_int fun _ _ => .int) (fun _ _ => rfl)))) (blkOk_by (own := [("letter", 2), ("own", 3)]) (by kernel_rfl)) (fun _ _ _ _ _ => (dg_tup rfl (dgs_cons (dg_name (pg_name (i := 2) sc_places_by_letter.nd rfl (by first | exact Or.inl rfl | exact Or.inr rfl)) (by decide)) (dgs_cons (dg_name (pg_name (i := 3) sc_places_by_letter.nd rfl (by first | exact Or.inl rfl | exact Or.inr rfl)) (by decide)) dgs_nil)))) (fun _ _ _ _ _ => dts_0) (fun _ _ _ _ _ => (de_lc rfl (pe_lc (own := [("place", 4), ("other", 5)]) (g := tG _ [0, 1, 2, 3] _) rfl sc_places_by_letter.nd (di_enumS (by rfl) B.enumerate (da_cons (de_var (pv 1)) da_nil)) (blkOk_by (own := [("place", 4), ("other", 5)]) (by kernel_rfl)) (fun _ _ _ _ _ => (dg_tup rfl (dgs_cons (dg_name (pg_name (i := 4) sc_places_by_letter.nd rfl (by first | exact Or.inl rfl | exact Or.inr rfl)) (by decide)) (dgs_cons (dg_name (pg_name (i := 5) sc_places_by_letter.nd rfl (by first | exact Or.inl rfl | exact Or.inr rfl)) (by decide)) dgs_nil)))) (fun _ _ _ _ _ => (dts_one (dt_cmpV (op_eqU (room64 hr)) vEq (dv_var (pv 5)) (dv_var (pv 2)) (nomark _)))) (fun _ _ _ _ _ => (de_var (pv 4))))))))))
theorem ok_number_of {f : Addr} {fd : FuncData} (F : Fun K "number_of" "number_of" s_number_of f fd) (hm : mg "number_of" = some (.ref f)) (B : Bi mg) (XT : ETx K mg CH [x0, x1, x2, x3, x4, x5, x6, x7, x8, x9, x10, x11, x12, x13, x14]) (C__law_word : CalH P w K mg base [x0, x1, x2, x3, x4, x5, x6, x7, x8, x9, x10, x11, x12, x13, x14] "_law_word" 2) (C_letters_of : Cal P w K mg base (RXP [x0, x1, x2, x3, x4, x5, x6, x7, x8, x9, x10, x11, x12, x13, x14]) "letters_of" 1 (List.replicate 1 false) m_letters_of) : Cal P w K mg base (RXP [x0, x1, x2, x3, x4, x5, x6, x7, x8, x9, x10, x11, x12, x13, x14]) "number_of" 2 (List.replicate 2 false) m_number_of := by
  refine ⟨f, fd, ["house", "letter"], fn_ok (k := 1) F sc_number_of rfl rfl fun cdv A outer s H E hr => ?_, hm, F.kp, F.binds fun _ _ _ _ _ _ us hl => match us, hl with | [_, _], _ => rfl⟩
  unfold b_number_of
  exact (dss_one (ds_ret (de_meth vIndex (pe_bm PySem.F.plainAttrs_list PySem.F.slot_list_index PySem.F.type_list_index (mt_indexD (room65 hr)) (de_callC C_letters_of hr (by decide) rfl (L2N.takes_of rfl rfl rfl rfl) (da_cons (de_var (pv 0)) da_nil)) (da_cons (de_var (pv 1)) da_nil)))))
theorem ok_own_of {f : Addr} {fd : FuncData} (F : Fun K "own_of" "own_of" s_own_of f fd) (hm : mg "own_of" = some (.ref f)) (B : Bi mg) (XT : ETx K mg CH [x0, x1, x2, x3, x4, x5, x6, x7, x8, x9, x10, x11, x12, x13, x14]) (C__law_word : CalH P w K mg base [x0, x1, x2, x3, x4, x5, x6, x7, x8, x9, x10, x11, x12, x13, x14] "_law_word" 2) (C_number_of : Cal P w K mg base (RXP [x0, x1, x2, x3, x4, x5, x6, x7, x8, x9, x10, x11, x12, x13, x14]) "number_of" 2 (List.replicate 2 false) m_number_of) : Cal P w K mg base (RXP [x0, x1, x2, x3, x4, x5, x6, x7, x8, x9, x10, x11, x12, x13, x14]) "own_of" 3 (List.replicate 2 false) m_own_of := by
  refine ⟨f, fd, ["house", "letter"], fn_ok (k := 2) F sc_own_of rfl rfl fun cdv A outer s H E hr => ?_, hm, F.kp, F.binds fun _ _ _ _ _ _ us hl => match us, hl with | [_, _], _ => rfl⟩
  unfold b_own_of
  exact (dss_one (ds_ret (de_callB (pe_callTy call_list_of (by rfl) B.list boot_list (da_cons (de_ixU (room1 hr) (de_ixU (room1 hr) (de_ofV (dv_ixU (room1 hr) (dv_var (pv 0)) (dv_k pe_int fun _ _ => .int) (fun _ _ => rfl))) (de_callC C_number_of hr (by decide) rfl (L2N.takes_of rfl rfl rfl rfl) (da_cons (de_var (pv 0)) (da_cons (de_var (pv 1)) da_nil))) (fun _ _ => rfl)) (de_k pe_int fun _ _ => .int) (fun _ _ => rfl)) da_nil)) vList)))
theorem ok_bits_below {f : Addr} {fd : FuncData} (F : Fun K "bits_below" "bits_below" s_bits_below f fd) (hm : mg "bits_below" = some (.ref f)) (B : Bi mg) (XT : ETx K mg CH [x0, x1, x2, x3, x4, x5, x6, x7, x8, x9, x10, x11, x12, x13, x14]) (C__law_word : CalH P w K mg base [x0, x1, x2, x3, x4, x5, x6, x7, x8, x9, x10, x11, x12, x13, x14] "_law_word" 2) (C_own_of : Cal P w K mg base (RXP [x0, x1, x2, x3, x4, x5, x6, x7, x8, x9, x10, x11, x12, x13, x14]) "own_of" 3 (List.replicate 2 false) m_own_of) : Cal P w K mg base (RXP [x0, x1, x2, x3, x4, x5, x6, x7, x8, x9, x10, x11, x12, x13, x14]) "bits_below" 4 (List.replicate 2 false) m_bits_below := by
  refine ⟨f, fd, ["house", "row"], fn_ok (k := 3) F sc_bits_below rfl rfl fun cdv A outer s H E hr => ?_, hm, F.kp, F.binds fun _ _ _ _ _ _ us hl => match us, hl with | [_, _], _ => rfl⟩
  unfold b_bits_below
  exact (dss_cons (ds_set (ps_set (i := 2) sc_bits_below.nd rfl (by first | exact Or.inl rfl | exact Or.inr rfl) (de_lst da_nil)) (by decide))
      (dss_cons (ds_setLc rfl (ps_setLc (i := 3) (own := [("hand", 7)]) (g := tG _ [0, 1, 2, 3, 4, 5, 6] _) rfl sc_bits_below.nd rfl rfl (sw_true rfl rfl rfl (by decide +kernel)) (di_range1 (by rfl) B.range (da_cons (de_ofV (dv_ixU (room1 hr) (dv_var (pv 0)) (dv_k pe_int fun _ _ => .int) (fun _ _ => rfl))) da_nil)) (blkOk_by (own := [("hand", 7)]) (by kernel_rfl)) (fun _ _ _ _ _ => (dg_name (pg_name (i := 7) sc_bits_below.nd rfl (by first | exact Or.inl rfl | exact Or.inr rfl)) (by decide))) (fun _ _ _ _ _ => dts_0) (fun _ _ _ _ _ => (de_k pe_int fun _ _ => .int))) (by decide))
      (dss_cons (ds_for (passes_of rfl) rfl (di_enumS (by rfl) B.enumerate (da_cons (de_var (pv 1)) da_nil)) (dg_tup rfl (dgs_cons (dg_name (pg_name (i := 4) sc_bits_below.nd rfl (by first | exact Or.inl rfl | exact Or.inr rfl)) (by decide)) (dgs_cons (dg_name (pg_name (i := 5) sc_bits_below.nd rfl (by first | exact Or.inl rfl | exact Or.inr rfl)) (by decide)) dgs_nil)))
      (dss_cons (ds_set (ps_set (i := 6) sc_bits_below.nd rfl (by first | exact Or.inl rfl | exact Or.inr rfl) (de_ofV (dv_op op_shl vShl (dv_k pe_int fun _ _ => .int) (dv_var (pv 4))))) (by decide))
      (dss_cons (ds_for (passes_of rfl) rfl (di_list (de_callC C_own_of hr (by decide) rfl (L2N.takes_of rfl rfl rfl rfl) (da_cons (de_var (pv 0)) (da_cons (de_var (pv 5)) da_nil)))) (dg_name (pg_name (i := 7) sc_bits_below.nd rfl (by first | exact Or.inl rfl | exact Or.inr rfl)) (by decide))
      (dss_one (ds_aug vBor (ps_aug (i := 6) sc_bits_below.nd rfl (by first | exact Or.inl rfl | exact Or.inr rfl) (de_ofV (dv_ixU (room1 hr) (dv_var (pv 3)) (dv_var (pv 7)) (fun _ _ => rfl))) iop_or) (by decide))))
      (dss_cons (ds_for (passes_of rfl) rfl (di_list (de_callC C_own_of hr (by decide) rfl (L2N.takes_of rfl rfl rfl rfl) (da_cons (de_var (pv 0)) (da_cons (de_var (pv 5)) da_nil)))) (dg_name (pg_name (i := 7) sc_bits_below.nd rfl (by first | exact Or.inl rfl | exact Or.inr rfl)) (by decide))
      (dss_one (ds_setL (ps_asg (de_var (pv 6)) (pg_sub (pv 3) (de_var (pv 7)) set_list)))))
      (dss_one (ds_append (ps_expr (pe_bm PySem.F.plainAttrs_list PySem.F.slot_list_append PySem.F.type_list_append mt_append (pv 2) (da_consL (pv 6) da_nil)))))))))
      (dss_one (ds_ret (de_mv (pv 2)))))))
theorem ok_next_places {f : Addr} {fd : FuncData} (F : Fun K "next_places" "next_places" s_next_places f fd) (hm : mg "next_places" = some (.ref f)) (B : Bi mg) (XT : ETx K mg CH [x0, x1, x2, x3, x4, x5, x6, x7, x8, x9, x10, x11, x12, x13, x14]) (C__law_word : CalH P w K mg base [x0, x1, x2, x3, x4, x5, x6, x7, x8, x9, x10, x11, x12, x13, x14] "_law_word" 2)  : Cal P w K mg base (RXP [x0, x1, x2, x3, x4, x5, x6, x7, x8, x9, x10, x11, x12, x13, x14]) "next_places" 1 (List.replicate 4 false) m_next_places := by
  refine ⟨f, fd, ["counts", "bits", "places", "below"], fn_ok (k := 0) F sc_next_places rfl rfl fun cdv A outer s H E hr => ?_, hm, F.kp, F.binds fun _ _ _ _ _ _ us hl => match us, hl with | [_, _, _, _], _ => rfl⟩
  unfold b_next_places
  exact (dss_cons (ds_set (ps_set (i := 4) sc_next_places.nd rfl (by first | exact Or.inl rfl | exact Or.inr rfl) (de_lst da_nil)) (by decide))
      (dss_cons (ds_for (passes_of rfl) rfl (di_enum (by rfl) B.enumerate (da_cons (de_var (pv 2)) da_nil)) (dg_tup rfl (dgs_cons (dg_name (pg_name (i := 5) sc_next_places.nd rfl (by first | exact Or.inl rfl | exact Or.inr rfl)) (by decide)) (dgs_cons (dg_name (pg_name (i := 6) sc_next_places.nd rfl (by first | exact Or.inl rfl | exact Or.inr rfl)) (by decide)) dgs_nil)))
      (dss_one (ds_if (dt_cmpV op_ltU vLt (dv_ixU (room1 hr) (dv_var (pv 0)) (dv_var (pv 5)) (fun _ _ => rfl)) (dv_callB (pe_callB call_lenU (by rfl) B.len boot_len (dav_cons (dv_var (pv 6)) dav_nil)) vLen) (nomark _))
      (dss_cons (ds_set (ps_set (i := 7) sc_next_places.nd rfl (by first | exact Or.inl rfl | exact Or.inr rfl) (de_ofV (dv_ixU (room1 hr) (dv_var (pv 6)) (dv_ixU (room1 hr) (dv_var (pv 0)) (dv_var (pv 5)) (fun _ _ => rfl)) (fun _ _ => rfl)))) (by decide))
      (dss_one (ds_if (dt_cmpV (op_eqU (room64 hr)) vEq (dv_op op_and vBand (dv_ixU (room1 hr) (dv_var (pv 3)) (dv_var (pv 7)) (fun _ _ => rfl)) (dv_un un_inv vInv (dv_var (pv 1)))) (dv_op op_shl vShl (dv_k pe_int fun _ _ => .int) (dv_var (pv 7))) (nomark _))
      (dss_one (ds_append (ps_expr (pe_bm PySem.F.plainAttrs_list PySem.F.slot_list_append PySem.F.type_list_append mt_append (pv 4) (da_cons (de_tup (da_cons (de_var (pv 5)) (da_cons (de_var (pv 7)) da_nil))) da_nil)))))
      dss_nil)))
      dss_nil)))
      (dss_one (ds_ret (de_mv (pv 4))))))
theorem ok_more_of {f : Addr} {fd : FuncData} (F : Fun K "more_of" "more_of" s_more_of f fd) (hm : mg "more_of" = some (.ref f)) (B : Bi mg) (XT : ETx K mg CH [x0, x1, x2, x3, x4, x5, x6, x7, x8, x9, x10, x11, x12, x13, x14]) (C__law_word : CalH P w K mg base [x0, x1, x2, x3, x4, x5, x6, x7, x8, x9, x10, x11, x12, x13, x14] "_law_word" 2)  : Cal P w K mg base (RXP [x0, x1, x2, x3, x4, x5, x6, x7, x8, x9, x10, x11, x12, x13, x14]) "more_of" 1 (List.replicate 2 false) m_more_of := by
  refine ⟨f, fd, ["counts", "number"], fn_ok (k := 0) F sc_more_of rfl rfl fun cdv A outer s H E hr => ?_, hm, F.kp, F.binds fun _ _ _ _ _ _ us hl => match us, hl with | [_, _], _ => rfl⟩
  unfold b_more_of
  exact (dss_one (ds_ret (de_op op_catA vAddT (de_opEV op_catA vAddT (de_slice (de_var (pv 0)) do_0 (do_some (de_var (pv 1)))) (dv_tup (dav_cons (dv_op op_addU vAdd (dv_ixU (room1 hr) (dv_var (pv 0)) (dv_var (pv 1)) (fun _ _ => rfl)) (dv_k pe_int fun _ _ => .int)) dav_nil))) (de_slice (de_var (pv 0)) (do_some (de_ofV (dv_op op_addU vAdd (dv_var (pv 1)) (dv_k pe_int fun _ _ => .int)))) do_0))))
theorem ok_counted {f : Addr} {fd : FuncData} (F : Fun K "counted" "counted" s_counted f fd) (hm : mg "counted" = some (.ref f)) (B : Bi mg) (XT : ETx K mg CH [x0, x1, x2, x3, x4, x5, x6, x7, x8, x9, x10, x11, x12, x13, x14]) (C__law_word : CalH P w K mg base [x0, x1, x2, x3, x4, x5, x6, x7, x8, x9, x10, x11, x12, x13, x14] "_law_word" 2) (C_next_places : Cal P w K mg base (RXP [x0, x1, x2, x3, x4, x5, x6, x7, x8, x9, x10, x11, x12, x13, x14]) "next_places" 1 (List.replicate 4 false) m_next_places) (C_more_of : Cal P w K mg base (RXP [x0, x1, x2, x3, x4, x5, x6, x7, x8, x9, x10, x11, x12, x13, x14]) "more_of" 1 (List.replicate 2 false) m_more_of) (C_bits_below : Cal P w K mg base (RXP [x0, x1, x2, x3, x4, x5, x6, x7, x8, x9, x10, x11, x12, x13, x14]) "bits_below" 4 (List.replicate 2 false) m_bits_below) (C_places_by_letter : Cal P w K mg base (RXP [x0, x1, x2, x3, x4, x5, x6, x7, x8, x9, x10, x11, x12, x13, x14]) "places_by_letter" 1 (List.replicate 2 false) m_places_by_letter) : Cal P w K mg base (RXP [x0, x1, x2, x3, x4, x5, x6, x7, x8, x9, x10, x11, x12, x13, x14]) "counted" 5 (List.replicate 2 false) m_counted := by
  refine ⟨f, fd, ["house", "row"], fn_ok (k := 4) F sc_counted rfl rfl fun cdv A outer s H E hr => ?_, hm, F.kp, F.binds fun _ _ _ _ _ _ us hl => match us, hl with | [_, _], _ => rfl⟩
  unfold b_counted
  exact (dss_cons (ds_set (ps_set (i := 2) sc_counted.nd rfl (by first | exact Or.inl rfl | exact Or.inr rfl) (de_callC C_places_by_letter hr (by decide) rfl (L2N.takes_of rfl rfl rfl rfl) (da_cons (de_var (pv 0)) (da_cons (de_var (pv 1)) da_nil)))) (by decide))
      (dss_cons (ds_set (ps_set (i := 3) sc_counted.nd rfl (by first | exact Or.inl rfl | exact Or.inr rfl) (de_callC C_bits_below hr (by decide) rfl (L2N.takes_of rfl rfl rfl rfl) (da_cons (de_var (pv 0)) (da_cons (de_var (pv 1)) da_nil)))) (by decide))
      (dss_cons (ds_set (ps_set (i := 4) sc_counted.nd rfl (by first | exact Or.inl rfl | exact Or.inr rfl) (de_d1T (Nat.lt_of_succ_lt (room1 hr)) (de_callB (pe_callTy call_tuple_of (by rfl) B.tuple boot_tuple (da_cons (de_lc rfl (pe_lc (own := [("letter", 14)]) (g := tG _ [0, 1, 2, 3, 4, 5, 6, 7, 8, 9, 10, 11, 12, 13] _) rfl sc_counted.nd (di_list (de_var (pv 2))) (blkOk_by (own := [("letter", 14)]) (by kernel_rfl)) (fun _ _ _ _ _ => (dg_name (pg_name (i := 14) sc_counted.nd rfl (by first | exact Or.inl rfl | exact Or.inr rfl)) (by decide))) (fun _ _ _ _ _ => dts_0) (fun _ _ _ _ _ => (de_k pe_int fun _ _ => .int)))) da_nil)) vTuple) (de_tup (da_cons (de_k pe_int fun _ _ => .int) (da_cons (de_k pe_int fun _ _ => .int) da_nil))))) (by decide))
      (dss_cons (ds_set (ps_set (i := 5) sc_counted.nd rfl (by first | exact Or.inl rfl | exact Or.inr rfl) (de_k pe_int fun _ _ => .int)) (by decide))
      (dss_cons (ds_for (passes_of rfl) rfl (di_str (de_var (pv 1))) (dg_name (pg_name (i := 6) sc_counted.nd rfl (by first | exact Or.inl rfl | exact Or.inr rfl)) (by decide))
      (dss_cons (ds_set (ps_set (i := 7) sc_counted.nd rfl (by first | exact Or.inl rfl | exact Or.inr rfl) de_dnewT) (by decide))
      (dss_cons (ds_forKT (i := 4) (passes_of rfl) rfl (pv 4) (dg_name (pg_name (i := 8) sc_counted.nd rfl (by first | exact Or.inl rfl | exact Or.inr rfl)) (by decide))
      (dss_cons (ds_asg (ps_asg (de_ofV (dv_ixU (room1 hr) (dv_var (pv 4)) (dv_var (pv 8)) (fun _ _ => rfl))) (dg_tup rfl (dgs_cons (dg_name (pg_name (i := 9) sc_counted.nd rfl (by first | exact Or.inl rfl | exact Or.inr rfl)) (by decide)) (dgs_cons (dg_name (pg_name (i := 10) sc_counted.nd rfl (by first | exact Or.inl rfl | exact Or.inr rfl)) (by decide)) dgs_nil)))))
      (dss_one (ds_for (passes_of rfl) rfl (di_list (de_callC C_next_places hr (by decide) rfl (L2N.takes_of rfl rfl rfl rfl) (da_cons (de_var (pv 8)) (da_cons (de_var (pv 10)) (da_cons (de_var (pv 2)) (da_cons (de_var (pv 3)) da_nil)))))) (dg_tup rfl (dgs_cons (dg_name (pg_name (i := 11) sc_counted.nd rfl (by first | exact Or.inl rfl | exact Or.inr rfl)) (by decide)) (dgs_cons (dg_name (pg_name (i := 12) sc_counted.nd rfl (by first | exact Or.inl rfl | exact Or.inr rfl)) (by decide)) dgs_nil)))
      (dss_cons (ds_set (ps_set (i := 13) sc_counted.nd rfl (by first | exact Or.inl rfl | exact Or.inr rfl) (de_callC C_more_of hr (by decide) rfl (L2N.takes_of rfl rfl rfl rfl) (da_cons (de_var (pv 8)) (da_cons (de_var (pv 11)) da_nil)))) (by decide))
      (dss_one (ds_putD (ps_asg (de_tup (da_cons (de_opEV op_addU vAdd (de_ixU (room1 hr) (de_dget (room1 hr) (pv 7) (de_var (pv 13)) (de_tup (da_cons (de_k pe_int fun _ _ => .int) (da_cons (de_k pe_int fun _ _ => .int) da_nil))) ⟨rfl, rfl, rfl, rfl⟩) (de_k pe_int fun _ _ => .int) (fun _ _ => rfl)) (dv_var (pv 9))) (da_cons (de_ofV (dv_op op_or vBor (dv_var (pv 10)) (dv_op op_shl vShl (dv_k pe_int fun _ _ => .int) (dv_var (pv 12))))) da_nil))) (pg_sub (pv 7) (de_var (pv 13)) (set_dict (room1 hr)))))))))))
      (dss_cons (ds_set (ps_set (i := 4) sc_counted.nd rfl (by first | exact Or.inl rfl | exact Or.inr rfl) (de_var (pv 7))) (by decide))
      (dss_one (ds_aug (vI2 (f := fun i j => i + j)) (ps_aug (i := 5) sc_counted.nd rfl (by first | exact Or.inl rfl | exact Or.inr rfl) (de_ofV (dv_callB (pe_callB call_lenT (by rfl) B.len boot_len (dav_cons (dv_var (pv 4)) dav_nil)) vLenT)) iop_add) (by decide)))))))
      (dss_one (ds_ret (de_tup (da_cons (de_callB (pe_callB (cr_sum rfl) (by rfl) B.sum boot_sum (da_cons (de_lcKTF (i := 4) rfl (pe_lc (own := [("counts", 8)]) (g := tG _ [0, 1, 2, 3, 4, 5, 6, 7, 9, 10, 11, 12, 13, 14] _) rfl sc_counted.nd (di_keysLT (pv 4)) (blkOk_by (own := [("counts", 8)]) (by kernel_rfl)) (fun _ _ _ _ _ => (dg_name (pg_name (i := 8) sc_counted.nd rfl (by first | exact Or.inl rfl | exact Or.inr rfl)) (by decide))) (fun _ _ _ _ _ => dts_0) (fun _ _ _ _ _ => (de_ofV (dv_ixU (room1 hr) (dv_ixU (room1 hr) (dv_var (pv 4)) (dv_var (pv 8)) (fun _ _ => rfl)) (dv_k pe_int fun _ _ => .int) (fun _ _ => rfl)))))) da_nil)) vSum) (da_consL (pv 5) da_nil))))))))))
theorem ok_orders {f : Addr} {fd : FuncData} (F : Fun K "orders" "orders" s_orders f fd) (hm : mg "orders" = some (.ref f)) (B : Bi mg) (XT : ETx K mg CH [x0, x1, x2, x3, x4, x5, x6, x7, x8, x9, x10, x11, x12, x13, x14]) (C__law_word : CalH P w K mg base [x0, x1, x2, x3, x4, x5, x6, x7, x8, x9, x10, x11, x12, x13, x14] "_law_word" 2) (C_next_places : Cal P w K mg base (RXP [x0, x1, x2, x3, x4, x5, x6, x7, x8, x9, x10, x11, x12, x13, x14]) "next_places" 1 (List.replicate 4 false) m_next_places) (C_more_of : Cal P w K mg base (RXP [x0, x1, x2, x3, x4, x5, x6, x7, x8, x9, x10, x11, x12, x13, x14]) "more_of" 1 (List.replicate 2 false) m_more_of) (C_bits_below : Cal P w K mg base (RXP [x0, x1, x2, x3, x4, x5, x6, x7, x8, x9, x10, x11, x12, x13, x14]) "bits_below" 4 (List.replicate 2 false) m_bits_below) (C_places_by_letter : Cal P w K mg base (RXP [x0, x1, x2, x3, x4, x5, x6, x7, x8, x9, x10, x11, x12, x13, x14]) "places_by_letter" 1 (List.replicate 2 false) m_places_by_letter) (C_counted : Cal P w K mg base (RXP [x0, x1, x2, x3, x4, x5, x6, x7, x8, x9, x10, x11, x12, x13, x14]) "counted" 5 (List.replicate 2 false) m_counted) (C_look_both : Cal P w K mg base (RXP [x0, x1, x2, x3, x4, x5, x6, x7, x8, x9, x10, x11, x12, x13, x14]) "look_both" 8 (List.replicate 2 false) m_look_both) : Cal P w K mg base (RXP [x0, x1, x2, x3, x4, x5, x6, x7, x8, x9, x10, x11, x12, x13, x14]) "orders" 9 (List.replicate 2 false) m_orders := by
  refine ⟨f, fd, ["house", "row"], fn_ok (k := 8) F sc_orders rfl rfl fun cdv A outer s H E hr => ?_, hm, F.kp, F.binds fun _ _ _ _ _ _ us hl => match us, hl with | [_, _], _ => rfl⟩
  unfold b_orders
  exact (dss_cons (ds_drop (ps_expr (de_callC C_look_both hr (by decide) rfl (L2N.takes_of rfl rfl rfl rfl) (da_cons (de_var (pv 0)) (da_cons (de_var (pv 1)) da_nil)))))
      (dss_cons (ds_if (dt_cmpEV op_gtU vGt (de_ixU (room1 hr) (de_callC C_counted hr (by decide) rfl (L2N.takes_of rfl rfl rfl rfl) (da_cons (de_var (pv 0)) (da_cons (de_var (pv 1)) da_nil))) (de_k pe_int fun _ _ => .int) (fun _ _ => rfl)) (dv_k (pe_globI (by rfl) B.c_MOST_ORDERS) fun _ _ => .int) (nomark _))
      (dss_one (ds_raise (i := 7) (C := x7) XT.tab (XT.ex 7 (by decide) (by decide) _ rfl) rfl rfl rfl (L2N.takes_of rfl rfl rfl rfl) (by rfl)))
      dss_nil)
      (dss_cons (ds_set (ps_set (i := 2) sc_orders.nd rfl (by first | exact Or.inl rfl | exact Or.inr rfl) (de_callC C_places_by_letter hr (by decide) rfl (L2N.takes_of rfl rfl rfl rfl) (da_cons (de_var (pv 0)) (da_cons (de_var (pv 1)) da_nil)))) (by decide))
      (dss_cons (ds_set (ps_set (i := 3) sc_orders.nd rfl (by first | exact Or.inl rfl | exact Or.inr rfl) (de_callC C_bits_below hr (by decide) rfl (L2N.takes_of rfl rfl rfl rfl) (da_cons (de_var (pv 0)) (da_cons (de_var (pv 1)) da_nil)))) (by decide))
      (dss_cons (ds_set (ps_set (i := 4) sc_orders.nd rfl (by first | exact Or.inl rfl | exact Or.inr rfl) (de_lst (da_cons (de_tup (da_cons (de_k pe_str fun _ _ => .str) (da_cons (de_callB (pe_callTy call_tuple_of (by rfl) B.tuple boot_tuple (da_cons (de_lc rfl (pe_lc (own := [("letter", 12)]) (g := tG _ [0, 1, 2, 3, 4, 5, 6, 7, 8, 9, 10, 11] _) rfl sc_orders.nd (di_list (de_var (pv 2))) (blkOk_by (own := [("letter", 12)]) (by kernel_rfl)) (fun _ _ _ _ _ => (dg_name (pg_name (i := 12) sc_orders.nd rfl (by first | exact Or.inl rfl | exact Or.inr rfl)) (by decide))) (fun _ _ _ _ _ => dts_0) (fun _ _ _ _ _ => (de_k pe_int fun _ _ => .int)))) da_nil)) vTuple) (da_cons (de_k pe_int fun _ _ => .int) da_nil)))) da_nil))) (by decide))
      (dss_cons (ds_for (passes_of rfl) rfl (di_str (de_var (pv 1))) (dg_name (pg_name (i := 5) sc_orders.nd rfl (by first | exact Or.inl rfl | exact Or.inr rfl)) (by decide))
      (dss_cons (ds_set (ps_set (i := 6) sc_orders.nd rfl (by first | exact Or.inl rfl | exact Or.inr rfl) (de_lst da_nil)) (by decide))
      (dss_cons (ds_for (passes_of rfl) rfl (di_list (de_var (pv 4))) (dg_tup rfl (dgs_cons (dg_name (pg_name (i := 7) sc_orders.nd rfl (by first | exact Or.inl rfl | exact Or.inr rfl)) (by decide)) (dgs_cons (dg_name (pg_name (i := 8) sc_orders.nd rfl (by first | exact Or.inl rfl | exact Or.inr rfl)) (by decide)) (dgs_cons (dg_name (pg_name (i := 9) sc_orders.nd rfl (by first | exact Or.inl rfl | exact Or.inr rfl)) (by decide)) dgs_nil))))
      (dss_one (ds_for (passes_of rfl) rfl (di_list (de_callC C_next_places hr (by decide) rfl (L2N.takes_of rfl rfl rfl rfl) (da_cons (de_var (pv 8)) (da_cons (de_var (pv 9)) (da_cons (de_var (pv 2)) (da_cons (de_var (pv 3)) da_nil)))))) (dg_tup rfl (dgs_cons (dg_name (pg_name (i := 10) sc_orders.nd rfl (by first | exact Or.inl rfl | exact Or.inr rfl)) (by decide)) (dgs_cons (dg_name (pg_name (i := 11) sc_orders.nd rfl (by first | exact Or.inl rfl | exact Or.inr rfl)) (by decide)) dgs_nil)))
      (dss_one (ds_append (ps_expr (pe_bm PySem.F.plainAttrs_list PySem.F.slot_list_append PySem.F.type_list_append mt_append (pv 6) (da_cons (de_tup (da_cons (de_ofV (dv_op op_addU vAdd (dv_var (pv 7)) (dv_ixU (room1 hr) (dv_var (pv 1)) (dv_var (pv 11)) (fun _ _ => rfl)))) (da_cons (de_callC C_more_of hr (by decide) rfl (L2N.takes_of rfl rfl rfl rfl) (da_cons (de_var (pv 8)) (da_cons (de_var (pv 10)) da_nil))) (da_cons (de_ofV (dv_op op_or vBor (dv_var (pv 9)) (dv_op op_shl vShl (dv_k pe_int fun _ _ => .int) (dv_var (pv 11))))) da_nil)))) da_nil))))))))
      (dss_one (ds_set (ps_set (i := 4) sc_orders.nd rfl (by first | exact Or.inl rfl | exact Or.inr rfl) (de_var (pv 6))) (by decide))))))
      (dss_one (ds_ret (de_callB (pe_callB cr_sortedSX (by rfl) B.sorted boot_sorted (da_cons (de_lc rfl (pe_lc (own := [("told", 7), ("counts", 8), ("bits", 9)]) (g := tG _ [0, 1, 2, 3, 4, 5, 6, 10, 11, 12] _) rfl sc_orders.nd (di_list (de_var (pv 4))) (blkOk_by (own := [("told", 7), ("counts", 8), ("bits", 9)]) (by kernel_rfl)) (fun _ _ _ _ _ => (dg_tup rfl (dgs_cons (dg_name (pg_name (i := 7) sc_orders.nd rfl (by first | exact Or.inl rfl | exact Or.inr rfl)) (by decide)) (dgs_cons (dg_name (pg_name (i := 8) sc_orders.nd rfl (by first | exact Or.inl rfl | exact Or.inr rfl)) (by decide)) (dgs_cons (dg_name (pg_name (i := 9) sc_orders.nd rfl (by first | exact Or.inl rfl | exact Or.inr rfl)) (by decide)) dgs_nil))))) (fun _ _ _ _ _ => dts_0) (fun _ _ _ _ _ => (de_var (pv 7))))) da_nil)) vSortSX)))))))))
theorem ok__law_asked {f : Addr} {fd : FuncData} (F : Fun K "_law_asked" "_law_asked" s__law_asked f fd) (hm : mg "_law_asked" = some (.ref f)) (B : Bi mg) (XT : ETx K mg CH [x0, x1, x2, x3, x4, x5, x6, x7, x8, x9, x10, x11, x12, x13, x14]) (C__law_word : CalH P w K mg base [x0, x1, x2, x3, x4, x5, x6, x7, x8, x9, x10, x11, x12, x13, x14] "_law_word" 2) (C_orders : Cal P w K mg base (RXP [x0, x1, x2, x3, x4, x5, x6, x7, x8, x9, x10, x11, x12, x13, x14]) "orders" 9 (List.replicate 2 false) m_orders) : Cal P w K mg base (RXP [x0, x1, x2, x3, x4, x5, x6, x7, x8, x9, x10, x11, x12, x13, x14]) "_law_asked" 10 (List.replicate 2 false) m__law_asked := by
  refine ⟨f, fd, ["_law_house_here", "_law_row_here"], fn_ok (k := 9) F sc__law_asked rfl rfl fun cdv A outer s H E hr => ?_, hm, F.kp, F.binds fun _ _ _ _ _ _ us hl => match us, hl with | [_, _], _ => rfl⟩
  unfold b__law_asked
  exact (dss_one (ds_try rfl rfl sc__law_asked.nd rfl rfl ⟨by rfl, by decide, .inl XT.tab.gH⟩ (L2N.takes_of rfl rfl rfl rfl) XT.tab (fun W1 pn1 xe1 tkT po =>
      (dss_one (ds_ret (de_callC C_orders hr (by decide) rfl tkT (da_cons (de_var (pv 0)) (da_cons (de_var (pv 1)) da_nil)))))) (fun a oe cls d pn hz hv => (su_word (pe_wordC C__law_word hr (by decide) hz hv (by rfl) (pv 2))))))
theorem ok__law_hang {f : Addr} {fd : FuncData} (F : Fun K "_law_hang" "_law_hang" s__law_hang f fd) (hm : mg "_law_hang" = some (.ref f)) (B : Bi mg) (XT : ETx K mg CH [x0, x1, x2, x3, x4, x5, x6, x7, x8, x9, x10, x11, x12, x13, x14]) (C__law_word : CalH P w K mg base [x0, x1, x2, x3, x4, x5, x6, x7, x8, x9, x10, x11, x12, x13, x14] "_law_word" 2)  : Cal P w K mg base (RXP [x0, x1, x2, x3, x4, x5, x6, x7, x8, x9, x10, x11, x12, x13, x14]) "_law_hang" 1 (List.replicate 3 false) m__law_hang := by
  refine ⟨f, fd, ["_law_house_here", "_law_one", "_law_other"], fn_ok (k := 0) F sc__law_hang rfl rfl fun cdv A outer s H E hr => ?_, hm, F.kp, F.binds fun _ _ _ _ _ _ us hl => match us, hl with | [_, _, _], _ => rfl⟩
  unfold b__law_hang
  exact (dss_cons (ds_set (ps_set (i := 3) sc__law_hang.nd rfl (by first | exact Or.inl rfl | exact Or.inr rfl) (de_callB (pe_callTy (call_dictU rfl) (by rfl) B.dict boot_dict (da_cons (de_ofV (dv_ixU (room1 hr) (dv_var (pv 0)) (dv_k pe_int fun _ _ => .int) (fun _ _ => rfl))) da_nil)) vDict)) (by decide))
      (dss_one (ds_ret (de_callB (pe_callB (cr_any rfl) (by rfl) B.any boot_any (da_cons (de_lc rfl (pe_lc (own := [("_law_hand", 4)]) (g := tG _ [0, 1, 2, 3] _) rfl sc__law_hang.nd (di_list (de_ofV (dv_ixU (room1 hr) (dv_var (pv 3)) (dv_var (pv 1)) (fun _ _ => rfl)))) (blkOk_by (own := [("_law_hand", 4)]) (by kernel_rfl)) (fun _ _ _ _ _ => (dg_name (pg_name (i := 4) sc__law_hang.nd rfl (by first | exact Or.inl rfl | exact Or.inr rfl)) (by decide))) (fun _ _ _ _ _ => dts_0) (fun _ _ _ _ _ => (de_ofV (dv_cmp (op_inU (room65 hr)) vIn (dv_var (pv 4)) (dv_ixU (room1 hr) (dv_var (pv 3)) (dv_var (pv 2)) (fun _ _ => rfl)) rfl))))) da_nil)) vAny))))
theorem ok__law_below {f : Addr} {fd : FuncData} (F : Fun K "_law_below" "_law_below" s__law_below f fd) (hm : mg "_law_below" = some (.ref f)) (B : Bi mg) (XT : ETx K mg CH [x0, x1, x2, x3, x4, x5, x6, x7, x8, x9, x10, x11, x12, x13, x14]) (C__law_word : CalH P w K mg base [x0, x1, x2, x3, x4, x5, x6, x7, x8, x9, x10, x11, x12, x13, x14] "_law_word" 2) (C__law_hang : Cal P w K mg base (RXP [x0, x1, x2, x3, x4, x5, x6, x7, x8, x9, x10, x11, x12, x13, x14]) "_law_hang" 1 (List.replicate 3 false) m__law_hang) : Cal P w K mg base (RXP [x0, x1, x2, x3, x4, x5, x6, x7, x8, x9, x10, x11, x12, x13, x14]) "_law_below" 2 (List.replicate 2 false) m__law_below := by
  refine ⟨f, fd, ["_law_house_here", "_law_row_here"], fn_ok (k := 1) F sc__law_below rfl rfl fun cdv A outer s H E hr => ?_, hm, F.kp, F.binds fun _ _ _ _ _ _ us hl => match us, hl with | [_, _], _ => rfl⟩
  unfold b__law_below
  exact (dss_cons (ds_set (ps_set (i := 2) sc__law_below.nd rfl (by first | exact Or.inl rfl | exact Or.inr rfl) (de_lst da_nil)) (by decide))
      (dss_cons (ds_for (passes_of rfl) rfl (di_range1 (by rfl) B.range (da_cons (de_ofV (dv_callB (pe_callB call_lenU (by rfl) B.len boot_len (dav_cons (dv_var (pv 1)) dav_nil)) vLen)) da_nil)) (dg_name (pg_name (i := 3) sc__law_below.nd rfl (by first | exact Or.inl rfl | exact Or.inr rfl)) (by decide))
      (dss_cons (ds_set (ps_set (i := 4) sc__law_below.nd rfl (by first | exact Or.inl rfl | exact Or.inr rfl) (de_lst (da_cons (de_var (pv 3)) da_nil))) (by decide))
      (dss_cons (ds_for (passes_of rfl) rfl (di_rangeD (pi_range3 (by rfl) B.range (da_cons (de_ofV (dv_op op_sub vSub (dv_var (pv 3)) (dv_k pe_int fun _ _ => .int))) (da_cons (de_ofV (dv_un un_neg vNeg (dv_k pe_int fun _ _ => .int))) (da_cons (de_ofV (dv_un un_neg vNeg (dv_k pe_int fun _ _ => .int))) da_nil))))) (dg_name (pg_name (i := 5) sc__law_below.nd rfl (by first | exact Or.inl rfl | exact Or.inr rfl)) (by decide))
      (dss_one (ds_if (dt_val (de_callB (pe_callB (cr_any rfl) (by rfl) B.any boot_any (da_cons (de_lc rfl (pe_lc (own := [("_law_k", 6)]) (g := tG _ [0, 1, 2, 3, 4, 5] _) rfl sc__law_below.nd (di_list (de_var (pv 4))) (blkOk_by (own := [("_law_k", 6)]) (by kernel_rfl)) (fun _ _ _ _ _ => (dg_name (pg_name (i := 6) sc__law_below.nd rfl (by first | exact Or.inl rfl | exact Or.inr rfl)) (by decide))) (fun _ _ _ _ _ => dts_0) (fun _ _ _ _ _ => (de_callC C__law_hang hr (by decide) rfl takesN0 (da_cons (de_var (pv 0)) (da_cons (de_ofV (dv_ixU (room1 hr) (dv_var (pv 1)) (dv_var (pv 5)) (fun _ _ => rfl))) (da_cons (de_ofV (dv_ixU (room1 hr) (dv_var (pv 1)) (dv_var (pv 6)) (fun _ _ => rfl))) da_nil))))))) da_nil)) vAny))
      (dss_one (ds_set (ps_set (i := 4) sc__law_below.nd rfl (by first | exact Or.inl rfl | exact Or.inr rfl) (de_opEV op_addU vAdd (de_lst (da_cons (de_var (pv 5)) da_nil)) (dv_var (pv 4)))) (by decide)))
      dss_nil)))
      (dss_one (ds_append (ps_expr (pe_bm PySem.F.plainAttrs_list PySem.F.slot_list_append PySem.F.type_list_append mt_append (pv 2) (da_consL (pv 4) da_nil))))))))
      (dss_one (ds_ret (de_mv (pv 2))))))
theorem ok__law_counted {f : Addr} {fd : FuncData} (F : Fun K "_law_counted" "_law_counted" s__law_counted f fd) (hm : mg "_law_counted" = some (.ref f)) (B : Bi mg) (XT : ETx K mg CH [x0, x1, x2, x3, x4, x5, x6, x7, x8, x9, x10, x11, x12, x13, x14]) (C__law_word : CalH P w K mg base [x0, x1, x2, x3, x4, x5, x6, x7, x8, x9, x10, x11, x12, x13, x14] "_law_word" 2) (C__law_below : Cal P w K mg base (RXP [x0, x1, x2, x3, x4, x5, x6, x7, x8, x9, x10, x11, x12, x13, x14]) "_law_below" 2 (List.replicate 2 false) m__law_below) : Cal P w K mg base (RXP [x0, x1, x2, x3, x4, x5, x6, x7, x8, x9, x10, x11, x12, x13, x14]) "_law_counted" 3 (List.replicate 2 false) m__law_counted := by
  refine ⟨f, fd, ["_law_house_here", "_law_row_here"], fn_ok (k := 2) F sc__law_counted rfl rfl fun cdv A outer s H E hr => ?_, hm, F.kp, F.binds fun _ _ _ _ _ _ us hl => match us, hl with | [_, _], _ => rfl⟩
  unfold b__law_counted
  exact (dss_cons (ds_setLc rfl (ps_setLc (i := 2) (own := [("_law_mine", 12)]) (g := tG _ [0, 1, 2, 3, 4, 5, 6, 7, 8, 9, 10, 11, 13, 14, 15, 16, 17] _) rfl sc__law_counted.nd rfl rfl (sw_true rfl rfl rfl (by decide +kernel)) (di_list (de_callC C__law_below hr (by decide) rfl (L2N.takes_of rfl rfl rfl rfl) (da_cons (de_var (pv 0)) (da_cons (de_var (pv 1)) da_nil)))) (blkOk_by (own := [("_law_mine", 12)]) (by kernel_rfl)) (fun _ _ _ _ _ => (dg_name (pg_name (i := 12) sc__law_counted.nd rfl (by first | exact Or.inl rfl | exact Or.inr rfl)) (by decide))) (fun _ _ _ _ _ => dts_0) (fun _ _ _ _ _ => (de_callB (pe_callB (cr_sum rfl) (by rfl) B.sum boot_sum (da_cons (de_lc rfl (pe_lc (own := [("_law_k", 13)]) (g := tG _ [0, 1, 2, 3, 4, 5, 6, 7, 8, 9, 10, 11, 12, 14, 15, 16, 17] _) rfl sc__law_counted.nd (di_list (de_var (pv 12))) (blkOk_by (own := [("_law_k", 13)]) (by kernel_rfl)) (fun _ _ _ _ _ => (dg_name (pg_name (i := 13) sc__law_counted.nd rfl (by first | exact Or.inl rfl | exact Or.inr rfl)) (by decide))) (fun _ _ _ _ _ => dts_0) (fun _ _ _ _ _ => (de_ofV (dv_op op_shl vShl (dv_k pe_int fun _ _ => .int) (dv_var (pv 13))))))) da_nil)) vSum))) (by decide))
      (dss_cons (ds_setLc rfl (ps_setLc (i := 3) (own := [("_law_letter", 16), ("_law_owned", 17)]) (g := tG _ [0, 1, 2, 3, 4, 5, 6, 7, 8, 9, 10, 11, 12, 13, 14, 15] _) rfl sc__law_counted.nd rfl rfl (sw_true rfl rfl rfl (by decide +kernel)) (di_list (de_ofV (dv_ixU (room1 hr) (dv_var (pv 0)) (dv_k pe_int fun _ _ => .int) (fun _ _ => rfl)))) (blkOk_by (own := [("_law_letter", 16), ("_law_owned", 17)]) (by kernel_rfl)) (fun _ _ _ _ _ => (dg_tup rfl (dgs_cons (dg_name (pg_name (i := 16) sc__law_counted.nd rfl (by first | exact Or.inl rfl | exact Or.inr rfl)) (by decide)) (dgs_cons (dg_name (pg_name (i := 17) sc__law_counted.nd rfl (by first | exact Or.inl rfl | exact Or.inr rfl)) (by decide)) dgs_nil)))) (fun _ _ _ _ _ => dts_0) (fun _ _ _ _ _ => (de_lc rfl (pe_lc (own := [("_law_k", 13)]) (g := tG _ [0, 1, 2, 3, 4, 5, 6, 7, 8, 9, 10, 11, 12, 14, 15, 16, 17] _) rfl sc__law_counted.nd (di_range1 (by rfl) B.range (da_cons (de_ofV (dv_callB (pe_callB call_lenU (by rfl) B.len boot_len (dav_cons (dv_var (pv 1)) dav_nil)) vLen)) da_nil)) (blkOk_by (own := [("_law_k", 13)]) (by kernel_rfl)) (fun _ _ _ _ _ => (dg_name (pg_name (i := 13) sc__law_counted.nd rfl (by first | exact Or.inl rfl | exact Or.inr rfl)) (by decide))) (fun _ _ _ _ _ => (dts_one (dt_cmpV (op_eqU (room64 hr)) vEq (dv_ixU (room1 hr) (dv_var (pv 1)) (dv_var (pv 13)) (fun _ _ => rfl)) (dv_var (pv 16)) (nomark _)))) (fun _ _ _ _ _ => (de_var (pv 13))))))) (by decide))
      (dss_cons (ds_set (ps_set (i := 4) sc__law_counted.nd rfl (by first | exact Or.inl rfl | exact Or.inr rfl) (de_d1T (Nat.lt_of_succ_lt (room1 hr)) (de_callB (pe_callTy call_tuple_of (by rfl) B.tuple boot_tuple (da_cons (de_lc rfl (pe_lc (own := [("_law_mine", 12)]) (g := tG _ [0, 1, 2, 3, 4, 5, 6, 7, 8, 9, 10, 11, 13, 14, 15, 16, 17] _) rfl sc__law_counted.nd (di_list (de_var (pv 3))) (blkOk_by (own := [("_law_mine", 12)]) (by kernel_rfl)) (fun _ _ _ _ _ => (dg_name (pg_name (i := 12) sc__law_counted.nd rfl (by first | exact Or.inl rfl | exact Or.inr rfl)) (by decide))) (fun _ _ _ _ _ => dts_0) (fun _ _ _ _ _ => (de_k pe_int fun _ _ => .int)))) da_nil)) vTuple) (de_lst (da_cons (de_k pe_int fun _ _ => .int) (da_cons (de_k pe_int fun _ _ => .int) da_nil))))) (by decide))
      (dss_cons (ds_set (ps_set (i := 5) sc__law_counted.nd rfl (by first | exact Or.inl rfl | exact Or.inr rfl) (de_k pe_int fun _ _ => .int)) (by decide))
      (dss_cons (ds_for (passes_of rfl) rfl (di_str (de_var (pv 1))) (dg_name (pg_name (i := 6) sc__law_counted.nd rfl (by first | exact Or.inl rfl | exact Or.inr rfl)) (by decide))
      (dss_cons (ds_set (ps_set (i := 7) sc__law_counted.nd rfl (by first | exact Or.inl rfl | exact Or.inr rfl) de_dnewT) (by decide))
      (dss_cons (ds_forKT (i := 4) (passes_of rfl) rfl (pv 4) (dg_name (pg_name (i := 8) sc__law_counted.nd rfl (by first | exact Or.inl rfl | exact Or.inr rfl)) (by decide))
      (dss_cons (ds_asg (ps_asg (de_ofV (dv_ixU (room1 hr) (dv_var (pv 4)) (dv_var (pv 8)) (fun _ _ => rfl))) (dg_unl rfl (dgs_cons (dg_name (pg_name (i := 9) sc__law_counted.nd rfl (by first | exact Or.inl rfl | exact Or.inr rfl)) (by decide)) (dgs_cons (dg_name (pg_name (i := 10) sc__law_counted.nd rfl (by first | exact Or.inl rfl | exact Or.inr rfl)) (by decide)) dgs_nil)))))
      (dss_one (ds_for (passes_of rfl) rfl (di_enum (by rfl) B.enumerate (da_cons (de_var (pv 3)) da_nil)) (dg_tup rfl (dgs_cons (dg_name (pg_name (i := 11) sc__law_counted.nd rfl (by first | exact Or.inl rfl | exact Or.inr rfl)) (by decide)) (dgs_cons (dg_name (pg_name (i := 12) sc__law_counted.nd rfl (by first | exact Or.inl rfl | exact Or.inr rfl)) (by decide)) dgs_nil)))
      (dss_cons (ds_set (ps_set (i := 13) sc__law_counted.nd rfl (by first | exact Or.inl rfl | exact Or.inr rfl) (de_ofV (dv_ixU (room1 hr) (dv_op op_addU vAdd (dv_var (pv 12)) (dv_lst (dav_cons (dv_k pe_int fun _ _ => .int) dav_nil))) (dv_ixU (room1 hr) (dv_var (pv 8)) (dv_var (pv 11)) (fun _ _ => rfl)) (fun _ _ => rfl)))) (by decide))
      (dss_one (ds_if (PW.pt (dw_and (dt_cmpV op_ltU vLt (dv_ixU (room1 hr) (dv_var (pv 8)) (dv_var (pv 11)) (fun _ _ => rfl)) (dv_callB (pe_callB call_lenU (by rfl) B.len boot_len (dav_cons (dv_var (pv 12)) dav_nil)) vLen) (nomark _)) (dw_and1 (dt_cmpV (op_eqU (room64 hr)) vEq (dv_op op_and vBand (dv_ixU (room1 hr) (dv_var (pv 2)) (dv_var (pv 13)) (fun _ _ => rfl)) (dv_un un_inv vInv (dv_var (pv 10)))) (dv_op op_shl vShl (dv_k pe_int fun _ _ => .int) (dv_var (pv 13))) (nomark _)))))
      (dss_cons (ds_set (ps_set (i := 14) sc__law_counted.nd rfl (by first | exact Or.inl rfl | exact Or.inr rfl) (de_op op_catA vAddT (de_opEV op_catA vAddT (de_slice (de_var (pv 8)) do_0 (do_some (de_var (pv 11)))) (dv_tup (dav_cons (dv_op op_addU vAdd (dv_ixU (room1 hr) (dv_var (pv 8)) (dv_var (pv 11)) (fun _ _ => rfl)) (dv_k pe_int fun _ _ => .int)) dav_nil))) (de_slice (de_var (pv 8)) (do_some (de_ofV (dv_op op_addU vAdd (dv_var (pv 11)) (dv_k pe_int fun _ _ => .int)))) do_0))) (by decide))
      (dss_cons (ds_set (ps_set (i := 15) sc__law_counted.nd rfl (by first | exact Or.inl rfl | exact Or.inr rfl) (de_dget (room1 hr) (pv 7) (de_var (pv 14)) (de_lst (da_cons (de_k pe_int fun _ _ => .int) (da_cons (de_k pe_int fun _ _ => .int) da_nil))) ⟨rfl, rfl, rfl, rfl⟩)) (by decide))
      (dss_one (ds_putD (ps_asg (de_lst (da_cons (de_ofV (dv_op op_addU vAdd (dv_ixU (room1 hr) (dv_var (pv 15)) (dv_k pe_int fun _ _ => .int) (fun _ _ => rfl)) (dv_var (pv 9)))) (da_cons (de_ofV (dv_op op_or vBor (dv_var (pv 10)) (dv_op op_shl vShl (dv_k pe_int fun _ _ => .int) (dv_var (pv 13))))) da_nil))) (pg_sub (pv 7) (de_var (pv 14)) (set_dict (room1 hr))))))))
      dss_nil)))))))
      (dss_cons (ds_set (ps_set (i := 4) sc__law_counted.nd rfl (by first | exact Or.inl rfl | exact Or.inr rfl) (de_var (pv 7))) (by decide))
      (dss_one (ds_set (ps_set (i := 5) sc__law_counted.nd rfl (by first | exact Or.inl rfl | exact Or.inr rfl) (de_ofV (dv_op op_addU vAdd (dv_var (pv 5)) (dv_callB (pe_callB call_lenT (by rfl) B.len boot_len (dav_cons (dv_var (pv 4)) dav_nil)) vLenT)))) (by decide)))))))
      (dss_one (ds_ret (de_tup (da_cons (de_callB (pe_callB (cr_sum rfl) (by rfl) B.sum boot_sum (da_cons (de_lcKTF (i := 4) rfl (pe_lc (own := [("_law_counts", 8)]) (g := tG _ [0, 1, 2, 3, 4, 5, 6, 7, 9, 10, 11, 12, 13, 14, 15, 16, 17] _) rfl sc__law_counted.nd (di_keysLT (pv 4)) (blkOk_by (own := [("_law_counts", 8)]) (by kernel_rfl)) (fun _ _ _ _ _ => (dg_name (pg_name (i := 8) sc__law_counted.nd rfl (by first | exact Or.inl rfl | exact Or.inr rfl)) (by decide))) (fun _ _ _ _ _ => dts_0) (fun _ _ _ _ _ => (de_ofV (dv_ixU (room1 hr) (dv_ixU (room1 hr) (dv_var (pv 4)) (dv_var (pv 8)) (fun _ _ => rfl)) (dv_k pe_int fun _ _ => .int) (fun _ _ => rfl)))))) da_nil)) vSum) (da_consL (pv 5) da_nil))))))))))
theorem ok__law_all_rows {f : Addr} {fd : FuncData} (F : Fun K "_law_all_rows" "_law_all_rows" s__law_all_rows f fd) (hm : mg "_law_all_rows" = some (.ref f)) (B : Bi mg) (XT : ETx K mg CH [x0, x1, x2, x3, x4, x5, x6, x7, x8, x9, x10, x11, x12, x13, x14]) (C__law_word : CalH P w K mg base [x0, x1, x2, x3, x4, x5, x6, x7, x8, x9, x10, x11, x12, x13, x14] "_law_word" 2) (C__law_hang : Cal P w K mg base (RXP [x0, x1, x2, x3, x4, x5, x6, x7, x8, x9, x10, x11, x12, x13, x14]) "_law_hang" 1 (List.replicate 3 false) m__law_hang) : Cal P w K mg base (RXP [x0, x1, x2, x3, x4, x5, x6, x7, x8, x9, x10, x11, x12, x13, x14]) "_law_all_rows" 2 (List.replicate 2 false) m__law_all_rows := by
  refine ⟨f, fd, ["_law_house_here", "_law_row_here"], fn_ok (k := 1) F sc__law_all_rows rfl rfl fun cdv A outer s H E hr => ?_, hm, F.kp, F.binds fun _ _ _ _ _ _ us hl => match us, hl with | [_, _], _ => rfl⟩
  unfold b__law_all_rows
  exact (dss_cons (ds_set (ps_set (i := 2) sc__law_all_rows.nd rfl (by first | exact Or.inl rfl | exact Or.inr rfl) (de_d1K (de_var (pv 1)) (de_k pe_bl fun _ _ => .bl))) (by decide))
      (dss_cons (ds_set (ps_set (i := 3) sc__law_all_rows.nd rfl (by first | exact Or.inl rfl | exact Or.inr rfl) (de_lst (da_cons (de_var (pv 1)) da_nil))) (by decide))
      (dss_cons (ds_while (passes_of rfl) (dt_cmpV (op_neU (room64 hr)) vNe (dv_var (pv 3)) (dv_lst dav_nil) (nomark _))
      (dss_cons (ds_set (ps_set (i := 4) sc__law_all_rows.nd rfl (by first | exact Or.inl rfl | exact Or.inr rfl) (de_pop0 (pe_bm0 PySem.F.plainAttrs_list PySem.F.slot_list_pop PySem.F.type_list_pop mt_pop (pv 3)))) (by decide))
      (dss_one (ds_for (passes_of rfl) rfl (di_range1 (by rfl) B.range (da_cons (de_ofV (dv_op op_sub vSub (dv_callB (pe_callB call_lenU (by rfl) B.len boot_len (dav_cons (dv_var (pv 4)) dav_nil)) vLen) (dv_k pe_int fun _ _ => .int))) da_nil)) (dg_name (pg_name (i := 5) sc__law_all_rows.nd rfl (by first | exact Or.inl rfl | exact Or.inr rfl)) (by decide))
      (dss_one (ds_if (dt_not (dt_val (de_callC C__law_hang hr (by decide) rfl (L2N.takes_of rfl rfl rfl rfl) (da_cons (de_var (pv 0)) (da_cons (de_ofV (dv_ixU (room1 hr) (dv_var (pv 4)) (dv_var (pv 5)) (fun _ _ => rfl))) (da_cons (de_ofV (dv_ixU (room1 hr) (dv_var (pv 4)) (dv_op op_addU vAdd (dv_var (pv 5)) (dv_k pe_int fun _ _ => .int)) (fun _ _ => rfl))) da_nil))))))
      (dss_cons (ds_set (ps_set (i := 6) sc__law_all_rows.nd rfl (by first | exact Or.inl rfl | exact Or.inr rfl) (de_op op_addU vAdd (de_opEV op_addU vAdd (de_opEV op_addU vAdd (de_slice (de_var (pv 4)) do_0 (do_some (de_var (pv 5)))) (dv_ixU (room1 hr) (dv_var (pv 4)) (dv_op op_addU vAdd (dv_var (pv 5)) (dv_k pe_int fun _ _ => .int)) (fun _ _ => rfl))) (dv_ixU (room1 hr) (dv_var (pv 4)) (dv_var (pv 5)) (fun _ _ => rfl))) (de_slice (de_var (pv 4)) (do_some (de_ofV (dv_op op_addU vAdd (dv_var (pv 5)) (dv_k pe_int fun _ _ => .int)))) do_0))) (by decide))
      (dss_one (ds_if (dt_cmpV (op_ninU (room65 hr)) vNin (dv_var (pv 6)) (dv_var (pv 2)) rfl)
      (dss_cons (ds_putD (ps_asg (de_k pe_bl fun _ _ => .bl) (pg_sub (pv 2) (de_var (pv 6)) (set_dict (room1 hr)))))
      (dss_one (ds_append (ps_expr (pe_bm PySem.F.plainAttrs_list PySem.F.slot_list_append PySem.F.type_list_append mt_append (pv 3) (da_consL (pv 6) da_nil))))))
      dss_nil)))
      dss_nil))))))
      (dss_one (ds_ret (de_callB (pe_callB (call_sortedDX rfl) (by rfl) B.sorted boot_sorted (da_cons (de_var (pv 2)) da_nil)) vSortDX))))))
theorem ok__law_cell {f : Addr} {fd : FuncData} (F : Fun K "_law_cell" "_law_cell" s__law_cell f fd) (hm : mg "_law_cell" = some (.ref f)) (B : Bi mg) (XT : ETx K mg CH [x0, x1, x2, x3, x4, x5, x6, x7, x8, x9, x10, x11, x12, x13, x14]) (C__law_word : CalH P w K mg base [x0, x1, x2, x3, x4, x5, x6, x7, x8, x9, x10, x11, x12, x13, x14] "_law_word" 2)  : Cal P w K mg base (RXP [x0, x1, x2, x3, x4, x5, x6, x7, x8, x9, x10, x11, x12, x13, x14]) "_law_cell" 1 (List.replicate 2 false) m__law_cell := by
  refine ⟨f, fd, ["_law_script", "_law_k"], fn_ok (k := 0) F sc__law_cell rfl rfl fun cdv A outer s H E hr => ?_, hm, F.kp, F.binds fun _ _ _ _ _ _ us hl => match us, hl with | [_, _], _ => rfl⟩
  unfold b__law_cell
  exact (dss_cons (ds_if (dt_cmpV op_ltU vLt (dv_var (pv 1)) (dv_callB (pe_callB call_lenU (by rfl) B.len boot_len (dav_cons (dv_var (pv 0)) dav_nil)) vLen) (nomark _))
      (dss_one (ds_ret (de_ofV (dv_ixU (room1 hr) (dv_var (pv 0)) (dv_var (pv 1)) (fun _ _ => rfl)))))
      dss_nil)
      (dss_one (ds_ret (de_k pe_int fun _ _ => .int))))
theorem ok_law_fn {f : Addr} {fd : FuncData} (F : Fun K "law" "law" s_law f fd) (B : Bi mg) (XT : ETx K mg CH [x0, x1, x2, x3, x4, x5, x6, x7, x8, x9, x10, x11, x12, x13, x14]) (C__law_word : CalH P w K mg base [x0, x1, x2, x3, x4, x5, x6, x7, x8, x9, x10, x11, x12, x13, x14] "_law_word" 2) (C__law_asked : Cal P w K mg base (RXP [x0, x1, x2, x3, x4, x5, x6, x7, x8, x9, x10, x11, x12, x13, x14]) "_law_asked" 10 (List.replicate 2 false) m__law_asked) (C__law_all_rows : Cal P w K mg base (RXP [x0, x1, x2, x3, x4, x5, x6, x7, x8, x9, x10, x11, x12, x13, x14]) "_law_all_rows" 2 (List.replicate 2 false) m__law_all_rows) (C__law_counted : Cal P w K mg base (RXP [x0, x1, x2, x3, x4, x5, x6, x7, x8, x9, x10, x11, x12, x13, x14]) "_law_counted" 3 (List.replicate 2 false) m__law_counted) (C__law_take : Cal P w K mg base (RXP [x0, x1, x2, x3, x4, x5, x6, x7, x8, x9, x10, x11, x12, x13, x14]) "_law_take" 1 (true :: List.replicate 1 false) m__law_take) (C__law_row : Cal P w K mg base (RXP [x0, x1, x2, x3, x4, x5, x6, x7, x8, x9, x10, x11, x12, x13, x14]) "_law_row" 2 (true :: List.replicate 2 false) m__law_row) (C__law_drawn : Cal P w K mg base (RXP [x0, x1, x2, x3, x4, x5, x6, x7, x8, x9, x10, x11, x12, x13, x14]) "_law_drawn" 3 (List.replicate 2 false) m__law_drawn) (C__law_cell : Cal P w K mg base (RXP [x0, x1, x2, x3, x4, x5, x6, x7, x8, x9, x10, x11, x12, x13, x14]) "_law_cell" 1 (List.replicate 2 false) m__law_cell) : FnOk P w K mg base (L2N.CX P w) 11 f fd ["_law_script"] (spD K (RXP [x0, x1, x2, x3, x4, x5, x6, x7, x8, x9, x10, x11, x12, x13, x14]) (List.replicate 1 false) m_law) := by
  refine fn_ok (k := 10) F sc_law rfl rfl fun cdv A outer s H E hr => ?_
  unfold b_law
  exact (dss_cons (ds_for (passes_of rfl) rfl (di_range1 (by rfl) B.range (da_cons (de_ofV (dv_callB (pe_callB (call_max2 rfl) (by rfl) B.max boot_max (dav_cons (dv_k pe_int fun _ _ => .int) (dav_cons (dv_callB (pe_callB (call_min2 rfl) (by rfl) B.min boot_min (dav_cons (dv_k pe_int fun _ _ => .int) (dav_cons (dv_callB (pe_callB call_lenU (by rfl) B.len boot_len (dav_cons (dv_var (pv 0)) dav_nil)) vLen) dav_nil))) vMin2) dav_nil))) vMax2)) da_nil)) (dg_name (pg_name (i := 1) sc_law.nd rfl (by first | exact Or.inl rfl | exact Or.inr rfl)) (by decide))
      (dss_cons (ds_asg (ps_asg (de_callC C__law_drawn hr (by decide) rfl (L2N.takes_of rfl rfl rfl rfl) (da_cons (de_opEV op_addU vAdd (de_callC C__law_cell hr (by decide) rfl (L2N.takes_of rfl rfl rfl rfl) (da_cons (de_var (pv 0)) (da_cons (de_var (pv 1)) da_nil))) (dv_var (pv 1))) (da_cons (de_k pe_int fun _ _ => .int) da_nil))) (dg_tup rfl (dgs_cons (dg_name (pg_name (i := 2) sc_law.nd rfl (by first | exact Or.inl rfl | exact Or.inr rfl)) (by decide)) (dgs_cons (dg_name (pg_name (i := 3) sc_law.nd rfl (by first | exact Or.inl rfl | exact Or.inr rfl)) (by decide)) (dgs_cons (dg_name (pg_name (i := 4) sc_law.nd rfl (by first | exact Or.inl rfl | exact Or.inr rfl)) (by decide)) dgs_nil))))))
      (dss_cons (ds_set (ps_set (i := 4) sc_law.nd rfl (by first | exact Or.inl rfl | exact Or.inr rfl) (de_slice (de_var (pv 4)) do_0 (do_some (de_ofV (dv_ixU (room1 hr) (dv_lst (dav_cons (dv_k pe_int fun _ _ => .int) (dav_cons (dv_k pe_int fun _ _ => .int) (dav_cons (dv_k pe_int fun _ _ => .int) dav_nil)))) (dv_var (pv 1)) (fun _ _ => rfl)))))) (by decide))
      (dss_cons (ds_if (dt_cmpEV (op_eqU (room64 hr)) vEq (de_callIOC C__law_take hr (by decide) rfl (L2N.takes_of rfl rfl rfl rfl) (pv 2) (da_cons (de_k pe_int fun _ _ => .int) da_nil)) (dv_k pe_int fun _ _ => .int) (nomark _))
      (dss_cons (ds_set (ps_set (i := 3) sc_law.nd rfl (by first | exact Or.inl rfl | exact Or.inr rfl) (de_tup (da_cons (de_k pe_int fun _ _ => .int) (da_cons (de_lst (da_cons (de_tup (da_cons (de_k pe_str fun _ _ => .str) (da_cons (de_lst (da_cons (de_k pe_int fun _ _ => .int) da_nil)) da_nil))) (da_cons (de_tup (da_cons (de_k pe_str fun _ _ => .str) (da_cons (de_lst (da_cons (de_k pe_int fun _ _ => .int) da_nil)) da_nil))) (da_cons (de_tup (da_cons (de_k pe_str fun _ _ => .str) (da_cons (de_lst (da_cons (de_k pe_int fun _ _ => .int) da_nil)) da_nil))) (da_cons (de_tup (da_cons (de_k pe_str fun _ _ => .str) (da_cons (de_lst (da_cons (de_k pe_int fun _ _ => .int) da_nil)) da_nil))) da_nil))))) da_nil)))) (by decide))
      (dss_one (ds_set (ps_set (i := 4) sc_law.nd rfl (by first | exact Or.inl rfl | exact Or.inr rfl) (de_slice (de_callIOC C__law_row hr (by decide) rfl (L2N.takes_of rfl rfl rfl rfl) (pv 2) (da_cons (de_var (pv 3)) (da_cons (de_k pe_int fun _ _ => .int) da_nil))) do_0 (do_some (de_k pe_int fun _ _ => .int)))) (by decide))))
      dss_nil)
      (dss_cons (ds_set (ps_set (i := 5) sc_law.nd rfl (by first | exact Or.inl rfl | exact Or.inr rfl) (de_ixU (room1 hr) (de_callC C__law_counted hr (by decide) rfl (L2N.takes_of rfl rfl rfl rfl) (da_cons (de_var (pv 3)) (da_cons (de_var (pv 4)) da_nil))) (de_k pe_int fun _ _ => .int) (fun _ _ => rfl))) (by decide))
      (dss_cons (ds_set (ps_set (i := 6) sc_law.nd rfl (by first | exact Or.inl rfl | exact Or.inr rfl) (de_callC C__law_asked hr (by decide) rfl (L2N.takes_of rfl rfl rfl rfl) (da_cons (de_var (pv 3)) (da_cons (de_var (pv 4)) da_nil)))) (by decide))
      (dss_one (ds_if (dt_cmpV op_gtU vGt (dv_var (pv 5)) (dv_k pe_int fun _ _ => .int) (nomark _))
      (dss_one (ds_if (dt_cmpV (op_neU (room64 hr)) vNe (dv_var (pv 6)) (dv_k pe_str fun _ _ => .str) (nomark _))
      (dss_one (ds_ret (de_k pe_bl fun _ _ => .bl)))
      dss_nil))
      (dss_cons (ds_set (ps_set (i := 7) sc_law.nd rfl (by first | exact Or.inl rfl | exact Or.inr rfl) (de_callC C__law_all_rows hr (by decide) rfl (L2N.takes_of rfl rfl rfl rfl) (da_cons (de_var (pv 3)) (da_cons (de_var (pv 4)) da_nil)))) (by decide))
      (dss_cons (ds_if (PW.pt (dw_or (dt_not (dt_valV (dv_callB (pe_callB call_isi (by rfl) B.isinstance boot_isinstance (dav_cons (dv_var (pv 6)) (dav_cons (dv_k (pe_bltn (v := .ty "list") (by rfl) B.list PyProof.Rows.boot_list rfl) fun _ _ => .gv) dav_nil))) vIsi))) (dw_or (dt_not (dt_val (de_look (de_callB (pe_callB (cr_all rfl) (by rfl) B.all boot_all (da_cons (de_lc rfl (pe_lc (own := [("_law_one", 8)]) (g := tG _ [0, 1, 2, 3, 4, 5, 6, 7] _) rfl sc_law.nd (di_list (de_var (pv 6))) (blkOk_by (own := [("_law_one", 8)]) (by kernel_rfl)) (fun _ _ _ _ _ => (dg_name (pg_name (i := 8) sc_law.nd rfl (by first | exact Or.inl rfl | exact Or.inr rfl)) (by decide))) (fun _ _ _ _ _ => dts_0) (fun _ _ _ _ _ => (de_ofV (dv_callB (pe_callB call_isi (by rfl) B.isinstance boot_isinstance (dav_cons (dv_var (pv 8)) (dav_cons (dv_k (pe_bltn (v := .ty "str") (by rfl) B.str boot_str rfl) fun _ _ => .gv) dav_nil))) vIsi))))) da_nil)) vAll)))) (dw_or1 (dt_cmpV (op_neU (room64 hr)) vNe (dv_var (pv 6)) (dv_var (pv 7)) (nomark _))))))
      (dss_one (ds_ret (de_k pe_bl fun _ _ => .bl)))
      dss_nil)
      (dss_cons (ds_append (ps_expr (pe_bm PySem.F.plainAttrs_list PySem.F.slot_list_append PySem.F.type_list_append mt_append (pv 6) (da_cons (de_k pe_str fun _ _ => .str) da_nil))))
      (dss_one (ds_if (dt_cmpEV (op_neU (room64 hr)) vNe (de_callC C__law_asked hr (by decide) rfl (L2N.takes_of rfl rfl rfl rfl) (da_cons (de_var (pv 3)) (da_cons (de_var (pv 4)) da_nil))) (dv_var (pv 7)) (nomark _))
      (dss_one (ds_ret (de_k pe_bl fun _ _ => .bl)))
      dss_nil)))))))))))))
      (dss_one (ds_ret (de_k pe_bl fun _ _ => .bl))))
end
set_option maxHeartbeats 4000000 in
theorem all_mk {P : Program} {w : World} {K : PySem.W.Frag} {h : Heap} {mg : Str → Option Value} {fa f0 f1 f2 f3 f4 f5 f6 f7 f8 f9 f10 f11 f12 f13 f14 f15 f16 f17 f18 f19 f20 f21 f22 f23 f24 f25 f26 f27 f28 f29 f30 : Addr} (X : K.In h) (G : h.Ns mainGlobals mg) (hfa : mg "law" = some (.ref fa)) {od0 od1 od2 od3 od4 od5 od6 od7 od8 od9 od10 od11 od12 od13 od14 od15 od16 od17 od18 od19 od20 od21 od22 od23 od24 od25 od26 od27 od28 od29 od30 an0 an1 an2 an3 an4 an5 an6 an7 an8 an9 an10 an11 an12 an13 an14 an15 an16 an17 an18 an19 an20 an21 an22 an23 an24 an25 an26 an27 an28 an29 an30 : Option Addr} {sl0 sl1 sl2 sl3 sl4 sl5 sl6 sl7 sl8 sl9 sl10 sl11 sl12 sl13 sl14 sl15 sl16 sl17 sl18 sl19 sl20 sl21 sl22 sl23 sl24 sl25 sl26 sl27 sl28 sl29 sl30 : Array (Option Value)} {oc0 oc1 oc2 oc3 oc4 oc5 oc6 oc7 oc8 oc9 oc10 oc11 oc12 oc13 oc14 oc15 oc16 oc17 oc18 oc19 oc20 oc21 oc22 oc23 oc24 oc25 oc26 oc27 oc28 oc29 oc30 kV0 kV1 kV2 kV3 kV4 kV5 kV6 kV7 kV8 kV9 kV10 kV11 kV12 kV13 kV14 kV15 kV16 kV17 kV18 kV19 kV20 kV21 kV22 kV23 kV24 kV25 kV26 kV27 kV28 kV29 kV30 dc0 dc1 dc2 dc3 dc4 dc5 dc6 dc7 dc8 dc9 dc10 dc11 dc12 dc13 dc14 dc15 dc16 dc17 dc18 dc19 dc20 dc21 dc22 dc23 dc24 dc25 dc26 dc27 dc28 dc29 dc30 pm0 pm1 pm2 pm3 pm4 pm5 pm6 pm7 pm8 pm9 pm10 pm11 pm12 pm13 pm14 pm15 pm16 pm17 pm18 pm19 pm20 pm21 pm22 pm23 pm24 pm25 pm26 pm27 pm28 pm29 pm30 cd0 cd1 cd2 cd3 cd4 cd5 cd6 cd7 cd8 cd9 cd10 cd11 cd12 cd13 cd14 cd15 cd16 cd17 cd18 cd19 cd20 cd21 cd22 cd23 cd24 cd25 cd26 cd27 cd28 cd29 cd30 ct0 ct1 ct2 ct3 ct4 ct5 ct6 ct7 ct8 ct9 ct10 ct11 ct12 ct13 ct14 ct15 ct16 ct17 ct18 ct19 ct20 ct21 ct22 ct23 ct24 ct25 ct26 ct27 ct28 ct29 ct30 : Value} {CH x0 x1 x2 x3 x4 x5 x6 x7 x8 x9 x10 x11 x12 x13 x14 : Addr} {yH y0 y1 y2 y3 y4 y5 y6 y7 y8 y9 y10 y11 y12 y13 y14 : ClassData} {t_LETTERS t_FEWEST_HANDS t_MOST_HANDS t_MOST_LETTERS t_MOST_ORDERS : Tok} 
    (a0 : PySem.W.nsIn K mainGlobals "_law_bag" = some (some (.ref f0))) (l0 : K.lookup f0 = some ⟨oc0, od0, .func (PySem.W.fnOf "_law_bag" "_law_bag" (defArgs s__law_bag) (defBody s__law_bag) (defScope s__law_bag) .none kV0 dc0 pm0 an0 cd0 ct0), sl0⟩) (c0 : PySem.W.codeIn K cd0 "_law_bag" = true) (k0 : PySem.W.keepIn K (.ref f0) = true)
    (a1 : PySem.W.nsIn K mainGlobals "_law_take" = some (some (.ref f1))) (l1 : K.lookup f1 = some ⟨oc1, od1, .func (PySem.W.fnOf "_law_take" "_law_take" (defArgs s__law_take) (defBody s__law_take) (defScope s__law_take) .none kV1 dc1 pm1 an1 cd1 ct1), sl1⟩) (c1 : PySem.W.codeIn K cd1 "_law_take" = true) (k1 : PySem.W.keepIn K (.ref f1) = true)
    (a2 : PySem.W.nsIn K mainGlobals "_law_house" = some (some (.ref f2))) (l2 : K.lookup f2 = some ⟨oc2, od2, .func (PySem.W.fnOf "_law_house" "_law_house" (defArgs s__law_house) (defBody s__law_house) (defScope s__law_house) .none kV2 dc2 pm2 an2 cd2 ct2), sl2⟩) (c2 : PySem.W.codeIn K cd2 "_law_house" = true) (k2 : PySem.W.keepIn K (.ref f2) = true)
    (a3 : PySem.W.nsIn K mainGlobals "_law_row" = some (some (.ref f3))) (l3 : K.lookup f3 = some ⟨oc3, od3, .func (PySem.W.fnOf "_law_row" "_law_row" (defArgs s__law_row) (defBody s__law_row) (defScope s__law_row) .none kV3 dc3 pm3 an3 cd3 ct3), sl3⟩) (c3 : PySem.W.codeIn K cd3 "_law_row" = true) (k3 : PySem.W.keepIn K (.ref f3) = true)
    (a4 : PySem.W.nsIn K mainGlobals "_law_drawn" = some (some (.ref f4))) (l4 : K.lookup f4 = some ⟨oc4, od4, .func (PySem.W.fnOf "_law_drawn" "_law_drawn" (defArgs s__law_drawn) (defBody s__law_drawn) (defScope s__law_drawn) .none kV4 dc4 pm4 an4 cd4 ct4), sl4⟩) (c4 : PySem.W.codeIn K cd4 "_law_drawn" = true) (k4 : PySem.W.keepIn K (.ref f4) = true)
    (a5 : PySem.W.nsIn K mainGlobals "is_whole" = some (some (.ref f5))) (l5 : K.lookup f5 = some ⟨oc5, od5, .func (PySem.W.fnOf "is_whole" "is_whole" (defArgs s_is_whole) (defBody s_is_whole) (defScope s_is_whole) .none kV5 dc5 pm5 an5 cd5 ct5), sl5⟩) (c5 : PySem.W.codeIn K cd5 "is_whole" = true) (k5 : PySem.W.keepIn K (.ref f5) = true)
    (a6 : PySem.W.nsIn K mainGlobals "is_sign" = some (some (.ref f6))) (l6 : K.lookup f6 = some ⟨oc6, od6, .func (PySem.W.fnOf "is_sign" "is_sign" (defArgs s_is_sign) (defBody s_is_sign) (defScope s_is_sign) .none kV6 dc6 pm6 an6 cd6 ct6), sl6⟩) (c6 : PySem.W.codeIn K cd6 "is_sign" = true) (k6 : PySem.W.keepIn K (.ref f6) = true)
    (a7 : PySem.W.nsIn K mainGlobals "is_rising" = some (some (.ref f7))) (l7 : K.lookup f7 = some ⟨oc7, od7, .func (PySem.W.fnOf "is_rising" "is_rising" (defArgs s_is_rising) (defBody s_is_rising) (defScope s_is_rising) .none kV7 dc7 pm7 an7 cd7 ct7), sl7⟩) (c7 : PySem.W.codeIn K cd7 "is_rising" = true) (k7 : PySem.W.keepIn K (.ref f7) = true)
    (a8 : PySem.W.nsIn K mainGlobals "is_entry" = some (some (.ref f8))) (l8 : K.lookup f8 = some ⟨oc8, od8, .func (PySem.W.fnOf "is_entry" "is_entry" (defArgs s_is_entry) (defBody s_is_entry) (defScope s_is_entry) .none kV8 dc8 pm8 an8 cd8 ct8), sl8⟩) (c8 : PySem.W.codeIn K cd8 "is_entry" = true) (k8 : PySem.W.keepIn K (.ref f8) = true)
    (a9 : PySem.W.nsIn K mainGlobals "is_house" = some (some (.ref f9))) (l9 : K.lookup f9 = some ⟨oc9, od9, .func (PySem.W.fnOf "is_house" "is_house" (defArgs s_is_house) (defBody s_is_house) (defScope s_is_house) .none kV9 dc9 pm9 an9 cd9 ct9), sl9⟩) (c9 : PySem.W.codeIn K cd9 "is_house" = true) (k9 : PySem.W.keepIn K (.ref f9) = true)
    (a10 : PySem.W.nsIn K mainGlobals "look_house" = some (some (.ref f10))) (l10 : K.lookup f10 = some ⟨oc10, od10, .func (PySem.W.fnOf "look_house" "look_house" (defArgs s_look_house) (defBody s_look_house) (defScope s_look_house) .none kV10 dc10 pm10 an10 cd10 ct10), sl10⟩) (c10 : PySem.W.codeIn K cd10 "look_house" = true) (k10 : PySem.W.keepIn K (.ref f10) = true)
    (a11 : PySem.W.nsIn K mainGlobals "letters_of" = some (some (.ref f11))) (l11 : K.lookup f11 = some ⟨oc11, od11, .func (PySem.W.fnOf "letters_of" "letters_of" (defArgs s_letters_of) (defBody s_letters_of) (defScope s_letters_of) .none kV11 dc11 pm11 an11 cd11 ct11), sl11⟩) (c11 : PySem.W.codeIn K cd11 "letters_of" = true) (k11 : PySem.W.keepIn K (.ref f11) = true)
    (a12 : PySem.W.nsIn K mainGlobals "is_row" = some (some (.ref f12))) (l12 : K.lookup f12 = some ⟨oc12, od12, .func (PySem.W.fnOf "is_row" "is_row" (defArgs s_is_row) (defBody s_is_row) (defScope s_is_row) .none kV12 dc12 pm12 an12 cd12 ct12), sl12⟩) (c12 : PySem.W.codeIn K cd12 "is_row" = true) (k12 : PySem.W.keepIn K (.ref f12) = true)
    (a13 : PySem.W.nsIn K mainGlobals "look_row" = some (some (.ref f13))) (l13 : K.lookup f13 = some ⟨oc13, od13, .func (PySem.W.fnOf "look_row" "look_row" (defArgs s_look_row) (defBody s_look_row) (defScope s_look_row) .none kV13 dc13 pm13 an13 cd13 ct13), sl13⟩) (c13 : PySem.W.codeIn K cd13 "look_row" = true) (k13 : PySem.W.keepIn K (.ref f13) = true)
    (a14 : PySem.W.nsIn K mainGlobals "look_both" = some (some (.ref f14))) (l14 : K.lookup f14 = some ⟨oc14, od14, .func (PySem.W.fnOf "look_both" "look_both" (defArgs s_look_both) (defBody s_look_both) (defScope s_look_both) .none kV14 dc14 pm14 an14 cd14 ct14), sl14⟩) (c14 : PySem.W.codeIn K cd14 "look_both" = true) (k14 : PySem.W.keepIn K (.ref f14) = true)
    (a15 : PySem.W.nsIn K mainGlobals "places_by_letter" = some (some (.ref f15))) (l15 : K.lookup f15 = some ⟨oc15, od15, .func (PySem.W.fnOf "places_by_letter" "places_by_letter" (defArgs s_places_by_letter) (defBody s_places_by_letter) (defScope s_places_by_letter) .none kV15 dc15 pm15 an15 cd15 ct15), sl15⟩) (c15 : PySem.W.codeIn K cd15 "places_by_letter" = true) (k15 : PySem.W.keepIn K (.ref f15) = true)
    (a16 : PySem.W.nsIn K mainGlobals "number_of" = some (some (.ref f16))) (l16 : K.lookup f16 = some ⟨oc16, od16, .func (PySem.W.fnOf "number_of" "number_of" (defArgs s_number_of) (defBody s_number_of) (defScope s_number_of) .none kV16 dc16 pm16 an16 cd16 ct16), sl16⟩) (c16 : PySem.W.codeIn K cd16 "number_of" = true) (k16 : PySem.W.keepIn K (.ref f16) = true)
    (a17 : PySem.W.nsIn K mainGlobals "own_of" = some (some (.ref f17))) (l17 : K.lookup f17 = some ⟨oc17, od17, .func (PySem.W.fnOf "own_of" "own_of" (defArgs s_own_of) (defBody s_own_of) (defScope s_own_of) .none kV17 dc17 pm17 an17 cd17 ct17), sl17⟩) (c17 : PySem.W.codeIn K cd17 "own_of" = true) (k17 : PySem.W.keepIn K (.ref f17) = true)
    (a18 : PySem.W.nsIn K mainGlobals "bits_below" = some (some (.ref f18))) (l18 : K.lookup f18 = some ⟨oc18, od18, .func (PySem.W.fnOf "bits_below" "bits_below" (defArgs s_bits_below) (defBody s_bits_below) (defScope s_bits_below) .none kV18 dc18 pm18 an18 cd18 ct18), sl18⟩) (c18 : PySem.W.codeIn K cd18 "bits_below" = true) (k18 : PySem.W.keepIn K (.ref f18) = true)
    (a19 : PySem.W.nsIn K mainGlobals "next_places" = some (some (.ref f19))) (l19 : K.lookup f19 = some ⟨oc19, od19, .func (PySem.W.fnOf "next_places" "next_places" (defArgs s_next_places) (defBody s_next_places) (defScope s_next_places) .none kV19 dc19 pm19 an19 cd19 ct19), sl19⟩) (c19 : PySem.W.codeIn K cd19 "next_places" = true) (k19 : PySem.W.keepIn K (.ref f19) = true)
    (a20 : PySem.W.nsIn K mainGlobals "more_of" = some (some (.ref f20))) (l20 : K.lookup f20 = some ⟨oc20, od20, .func (PySem.W.fnOf "more_of" "more_of" (defArgs s_more_of) (defBody s_more_of) (defScope s_more_of) .none kV20 dc20 pm20 an20 cd20 ct20), sl20⟩) (c20 : PySem.W.codeIn K cd20 "more_of" = true) (k20 : PySem.W.keepIn K (.ref f20) = true)
    (a21 : PySem.W.nsIn K mainGlobals "counted" = some (some (.ref f21))) (l21 : K.lookup f21 = some ⟨oc21, od21, .func (PySem.W.fnOf "counted" "counted" (defArgs s_counted) (defBody s_counted) (defScope s_counted) .none kV21 dc21 pm21 an21 cd21 ct21), sl21⟩) (c21 : PySem.W.codeIn K cd21 "counted" = true) (k21 : PySem.W.keepIn K (.ref f21) = true)
    (a22 : PySem.W.nsIn K mainGlobals "orders" = some (some (.ref f22))) (l22 : K.lookup f22 = some ⟨oc22, od22, .func (PySem.W.fnOf "orders" "orders" (defArgs s_orders) (defBody s_orders) (defScope s_orders) .none kV22 dc22 pm22 an22 cd22 ct22), sl22⟩) (c22 : PySem.W.codeIn K cd22 "orders" = true) (k22 : PySem.W.keepIn K (.ref f22) = true)
    (a23 : PySem.W.nsIn K mainGlobals "_law_asked" = some (some (.ref f23))) (l23 : K.lookup f23 = some ⟨oc23, od23, .func (PySem.W.fnOf "_law_asked" "_law_asked" (defArgs s__law_asked) (defBody s__law_asked) (defScope s__law_asked) .none kV23 dc23 pm23 an23 cd23 ct23), sl23⟩) (c23 : PySem.W.codeIn K cd23 "_law_asked" = true) (k23 : PySem.W.keepIn K (.ref f23) = true)
    (a24 : PySem.W.nsIn K mainGlobals "_law_hang" = some (some (.ref f24))) (l24 : K.lookup f24 = some ⟨oc24, od24, .func (PySem.W.fnOf "_law_hang" "_law_hang" (defArgs s__law_hang) (defBody s__law_hang) (defScope s__law_hang) .none kV24 dc24 pm24 an24 cd24 ct24), sl24⟩) (c24 : PySem.W.codeIn K cd24 "_law_hang" = true) (k24 : PySem.W.keepIn K (.ref f24) = true)
    (a25 : PySem.W.nsIn K mainGlobals "_law_below" = some (some (.ref f25))) (l25 : K.lookup f25 = some ⟨oc25, od25, .func (PySem.W.fnOf "_law_below" "_law_below" (defArgs s__law_below) (defBody s__law_below) (defScope s__law_below) .none kV25 dc25 pm25 an25 cd25 ct25), sl25⟩) (c25 : PySem.W.codeIn K cd25 "_law_below" = true) (k25 : PySem.W.keepIn K (.ref f25) = true)
    (a26 : PySem.W.nsIn K mainGlobals "_law_counted" = some (some (.ref f26))) (l26 : K.lookup f26 = some ⟨oc26, od26, .func (PySem.W.fnOf "_law_counted" "_law_counted" (defArgs s__law_counted) (defBody s__law_counted) (defScope s__law_counted) .none kV26 dc26 pm26 an26 cd26 ct26), sl26⟩) (c26 : PySem.W.codeIn K cd26 "_law_counted" = true) (k26 : PySem.W.keepIn K (.ref f26) = true)
    (a27 : PySem.W.nsIn K mainGlobals "_law_all_rows" = some (some (.ref f27))) (l27 : K.lookup f27 = some ⟨oc27, od27, .func (PySem.W.fnOf "_law_all_rows" "_law_all_rows" (defArgs s__law_all_rows) (defBody s__law_all_rows) (defScope s__law_all_rows) .none kV27 dc27 pm27 an27 cd27 ct27), sl27⟩) (c27 : PySem.W.codeIn K cd27 "_law_all_rows" = true) (k27 : PySem.W.keepIn K (.ref f27) = true)
    (a28 : PySem.W.nsIn K mainGlobals "_law_cell" = some (some (.ref f28))) (l28 : K.lookup f28 = some ⟨oc28, od28, .func (PySem.W.fnOf "_law_cell" "_law_cell" (defArgs s__law_cell) (defBody s__law_cell) (defScope s__law_cell) .none kV28 dc28 pm28 an28 cd28 ct28), sl28⟩) (c28 : PySem.W.codeIn K cd28 "_law_cell" = true) (k28 : PySem.W.keepIn K (.ref f28) = true)
    (a29 : PySem.W.nsIn K mainGlobals "law" = some (some (.ref f29))) (l29 : K.lookup f29 = some ⟨oc29, od29, .func (PySem.W.fnOf "law" "law" (defArgs s_law) (defBody s_law) (defScope s_law) .none kV29 dc29 pm29 an29 cd29 ct29), sl29⟩) (c29 : PySem.W.codeIn K cd29 "law" = true) (k29 : PySem.W.keepIn K (.ref f29) = true)
    (EgH : PySem.W.nsIn K mainGlobals "HandError" = some (some (.ref CH))) (EqH : PySem.W.clsIn K CH = some yH) (EmH : yH.mro = .ref CH :: bmV) (EtH : PySem.W.typeIn K (.ref CH) = some (.type "type"))
    (Eg0 : PySem.W.nsIn K mainGlobals "NoHouse" = some (some (.ref x0))) (Eq0 : PySem.W.clsIn K x0 = some y0) (Em0 : y0.mro = .ref x0 :: .ref CH :: bmV) (Et0 : PySem.W.typeIn K (.ref x0) = some (.type "type")) (Ep0 : PySem.W.keepIn K (.ref x0) = true) (Ega0 : PySem.W.findIn K (.ref x0) "__getattribute__" = some (some (.builtin "BaseException.__getattribute__"))) (Egt0 : PySem.W.findIn K (.ref x0) "__getattr__" = some none) (Eca0 : PySem.W.findIn K (.ref x0) "__class__" = some (some (.builtin "object.__class__"))) (Eex0 : PySem.W.excIn K x0 bmV "ValueError.__new__" = true)
    (Eg1 : PySem.W.nsIn K mainGlobals "NoRow" = some (some (.ref x1))) (Eq1 : PySem.W.clsIn K x1 = some y1) (Em1 : y1.mro = .ref x1 :: .ref CH :: bmV) (Et1 : PySem.W.typeIn K (.ref x1) = some (.type "type")) (Ep1 : PySem.W.keepIn K (.ref x1) = true) (Ega1 : PySem.W.findIn K (.ref x1) "__getattribute__" = some (some (.builtin "BaseException.__getattribute__"))) (Egt1 : PySem.W.findIn K (.ref x1) "__getattr__" = some none) (Eca1 : PySem.W.findIn K (.ref x1) "__class__" = some (some (.builtin "object.__class__"))) (Eex1 : PySem.W.excIn K x1 bmV "ValueError.__new__" = true)
    (Eg2 : PySem.W.nsIn K mainGlobals "NoMachine" = some (some (.ref x2))) (Eq2 : PySem.W.clsIn K x2 = some y2) (Em2 : y2.mro = .ref x2 :: .ref CH :: bmV) (Et2 : PySem.W.typeIn K (.ref x2) = some (.type "type")) (Ep2 : PySem.W.keepIn K (.ref x2) = true) (Ega2 : PySem.W.findIn K (.ref x2) "__getattribute__" = some (some (.builtin "BaseException.__getattribute__"))) (Egt2 : PySem.W.findIn K (.ref x2) "__getattr__" = some none) (Eca2 : PySem.W.findIn K (.ref x2) "__class__" = some (some (.builtin "object.__class__"))) (Eex2 : PySem.W.excIn K x2 bmV "ValueError.__new__" = true)
    (Eg3 : PySem.W.nsIn K mainGlobals "NoRoom" = some (some (.ref x3))) (Eq3 : PySem.W.clsIn K x3 = some y3) (Em3 : y3.mro = .ref x3 :: .ref CH :: bmV) (Et3 : PySem.W.typeIn K (.ref x3) = some (.type "type")) (Ep3 : PySem.W.keepIn K (.ref x3) = true) (Ega3 : PySem.W.findIn K (.ref x3) "__getattribute__" = some (some (.builtin "BaseException.__getattribute__"))) (Egt3 : PySem.W.findIn K (.ref x3) "__getattr__" = some none) (Eca3 : PySem.W.findIn K (.ref x3) "__class__" = some (some (.builtin "object.__class__"))) (Eex3 : PySem.W.excIn K x3 bmV "ValueError.__new__" = true)
    (Eg4 : PySem.W.nsIn K mainGlobals "NoHand" = some (some (.ref x4))) (Eq4 : PySem.W.clsIn K x4 = some y4) (Em4 : y4.mro = .ref x4 :: .ref CH :: bmV) (Et4 : PySem.W.typeIn K (.ref x4) = some (.type "type")) (Ep4 : PySem.W.keepIn K (.ref x4) = true) (Ega4 : PySem.W.findIn K (.ref x4) "__getattribute__" = some (some (.builtin "BaseException.__getattribute__"))) (Egt4 : PySem.W.findIn K (.ref x4) "__getattr__" = some none) (Eca4 : PySem.W.findIn K (.ref x4) "__class__" = some (some (.builtin "object.__class__"))) (Eex4 : PySem.W.excIn K x4 bmV "ValueError.__new__" = true)
    (Eg5 : PySem.W.nsIn K mainGlobals "Unlike" = some (some (.ref x5))) (Eq5 : PySem.W.clsIn K x5 = some y5) (Em5 : y5.mro = .ref x5 :: .ref CH :: bmV) (Et5 : PySem.W.typeIn K (.ref x5) = some (.type "type")) (Ep5 : PySem.W.keepIn K (.ref x5) = true) (Ega5 : PySem.W.findIn K (.ref x5) "__getattribute__" = some (some (.builtin "BaseException.__getattribute__"))) (Egt5 : PySem.W.findIn K (.ref x5) "__getattr__" = some none) (Eca5 : PySem.W.findIn K (.ref x5) "__class__" = some (some (.builtin "object.__class__"))) (Eex5 : PySem.W.excIn K x5 bmV "ValueError.__new__" = true)
    (Eg6 : PySem.W.nsIn K mainGlobals "NoPast" = some (some (.ref x6))) (Eq6 : PySem.W.clsIn K x6 = some y6) (Em6 : y6.mro = .ref x6 :: .ref CH :: bmV) (Et6 : PySem.W.typeIn K (.ref x6) = some (.type "type")) (Ep6 : PySem.W.keepIn K (.ref x6) = true) (Ega6 : PySem.W.findIn K (.ref x6) "__getattribute__" = some (some (.builtin "BaseException.__getattribute__"))) (Egt6 : PySem.W.findIn K (.ref x6) "__getattr__" = some none) (Eca6 : PySem.W.findIn K (.ref x6) "__class__" = some (some (.builtin "object.__class__"))) (Eex6 : PySem.W.excIn K x6 bmV "ValueError.__new__" = true)
    (Eg7 : PySem.W.nsIn K mainGlobals "TooMany" = some (some (.ref x7))) (Eq7 : PySem.W.clsIn K x7 = some y7) (Em7 : y7.mro = .ref x7 :: .ref CH :: bmV) (Et7 : PySem.W.typeIn K (.ref x7) = some (.type "type")) (Ep7 : PySem.W.keepIn K (.ref x7) = true) (Ega7 : PySem.W.findIn K (.ref x7) "__getattribute__" = some (some (.builtin "BaseException.__getattribute__"))) (Egt7 : PySem.W.findIn K (.ref x7) "__getattr__" = some none) (Eca7 : PySem.W.findIn K (.ref x7) "__class__" = some (some (.builtin "object.__class__"))) (Eex7 : PySem.W.excIn K x7 bmV "ValueError.__new__" = true)
    (Eg8 : PySem.W.nsIn K mainGlobals "Torn" = some (some (.ref x8))) (Eq8 : PySem.W.clsIn K x8 = some y8) (Em8 : y8.mro = .ref x8 :: .ref CH :: bmV) (Et8 : PySem.W.typeIn K (.ref x8) = some (.type "type")) (Ep8 : PySem.W.keepIn K (.ref x8) = true) (Ega8 : PySem.W.findIn K (.ref x8) "__getattribute__" = some (some (.builtin "BaseException.__getattribute__"))) (Egt8 : PySem.W.findIn K (.ref x8) "__getattr__" = some none) (Eca8 : PySem.W.findIn K (.ref x8) "__class__" = some (some (.builtin "object.__class__")))
    (Eg9 : PySem.W.nsIn K mainGlobals "NoTable" = some (some (.ref x9))) (Eq9 : PySem.W.clsIn K x9 = some y9) (Em9 : y9.mro = .ref x9 :: .ref CH :: bmV) (Et9 : PySem.W.typeIn K (.ref x9) = some (.type "type")) (Ep9 : PySem.W.keepIn K (.ref x9) = true) (Ega9 : PySem.W.findIn K (.ref x9) "__getattribute__" = some (some (.builtin "BaseException.__getattribute__"))) (Egt9 : PySem.W.findIn K (.ref x9) "__getattr__" = some none) (Eca9 : PySem.W.findIn K (.ref x9) "__class__" = some (some (.builtin "object.__class__"))) (Eex9 : PySem.W.excIn K x9 bmV "ValueError.__new__" = true)
    (Eg10 : PySem.W.nsIn K mainGlobals "NoSet" = some (some (.ref x10))) (Eq10 : PySem.W.clsIn K x10 = some y10) (Em10 : y10.mro = .ref x10 :: .ref CH :: bmV) (Et10 : PySem.W.typeIn K (.ref x10) = some (.type "type")) (Ep10 : PySem.W.keepIn K (.ref x10) = true) (Ega10 : PySem.W.findIn K (.ref x10) "__getattribute__" = some (some (.builtin "BaseException.__getattribute__"))) (Egt10 : PySem.W.findIn K (.ref x10) "__getattr__" = some none) (Eca10 : PySem.W.findIn K (.ref x10) "__class__" = some (some (.builtin "object.__class__"))) (Eex10 : PySem.W.excIn K x10 bmV "ValueError.__new__" = true)
    (Eg11 : PySem.W.nsIn K mainGlobals "Falls" = some (some (.ref x11))) (Eq11 : PySem.W.clsIn K x11 = some y11) (Em11 : y11.mro = .ref x11 :: .ref CH :: bmV) (Et11 : PySem.W.typeIn K (.ref x11) = some (.type "type")) (Ep11 : PySem.W.keepIn K (.ref x11) = true) (Ega11 : PySem.W.findIn K (.ref x11) "__getattribute__" = some (some (.builtin "BaseException.__getattribute__"))) (Egt11 : PySem.W.findIn K (.ref x11) "__getattr__" = some none) (Eca11 : PySem.W.findIn K (.ref x11) "__class__" = some (some (.builtin "object.__class__")))
    (Eg12 : PySem.W.nsIn K mainGlobals "Whole" = some (some (.ref x12))) (Eq12 : PySem.W.clsIn K x12 = some y12) (Em12 : y12.mro = .ref x12 :: .ref CH :: bmV) (Et12 : PySem.W.typeIn K (.ref x12) = some (.type "type")) (Ep12 : PySem.W.keepIn K (.ref x12) = true) (Ega12 : PySem.W.findIn K (.ref x12) "__getattribute__" = some (some (.builtin "BaseException.__getattribute__"))) (Egt12 : PySem.W.findIn K (.ref x12) "__getattr__" = some none) (Eca12 : PySem.W.findIn K (.ref x12) "__class__" = some (some (.builtin "object.__class__"))) (Eex12 : PySem.W.excIn K x12 bmV "ValueError.__new__" = true)
    (Eg13 : PySem.W.nsIn K mainGlobals "NoText" = some (some (.ref x13))) (Eq13 : PySem.W.clsIn K x13 = some y13) (Em13 : y13.mro = .ref x13 :: .ref CH :: bmV) (Et13 : PySem.W.typeIn K (.ref x13) = some (.type "type")) (Ep13 : PySem.W.keepIn K (.ref x13) = true) (Ega13 : PySem.W.findIn K (.ref x13) "__getattribute__" = some (some (.builtin "BaseException.__getattribute__"))) (Egt13 : PySem.W.findIn K (.ref x13) "__getattr__" = some none) (Eca13 : PySem.W.findIn K (.ref x13) "__class__" = some (some (.builtin "object.__class__"))) (Eex13 : PySem.W.excIn K x13 bmV "ValueError.__new__" = true)
    (Eg14 : PySem.W.nsIn K mainGlobals "NoWord" = some (some (.ref x14))) (Eq14 : PySem.W.clsIn K x14 = some y14) (Em14 : y14.mro = .ref x14 :: .ref CH :: bmV) (Et14 : PySem.W.typeIn K (.ref x14) = some (.type "type")) (Ep14 : PySem.W.keepIn K (.ref x14) = true) (Ega14 : PySem.W.findIn K (.ref x14) "__getattribute__" = some (some (.builtin "BaseException.__getattribute__"))) (Egt14 : PySem.W.findIn K (.ref x14) "__getattr__" = some none) (Eca14 : PySem.W.findIn K (.ref x14) "__class__" = some (some (.builtin "object.__class__"))) (Eex14 : PySem.W.excIn K x14 bmV "ValueError.__new__" = true)
    (Enn : PySem.W.specialIn K (.builtin "object.__class__") "__get__" = some (some (.builtin "getset_descriptor.__get__"))) (Etk : PySem.W.takesIn K (.builtin "object.__class__") = some true) (End : (CH :: [x0, x1, x2, x3, x4, x5, x6, x7, x8, x9, x10, x11, x12, x13, x14]).Nodup)
    (a30 : PySem.W.nsIn K mainGlobals "_law_word" = some (some (.ref f30))) (l30 : K.lookup f30 = some ⟨oc30, od30, .func (PySem.W.fnOf "_law_word" "_law_word" (defArgs s__law_word) (defBody s__law_word) (defScope s__law_word) .none kV30 dc30 pm30 an30 cd30 ct30), sl30⟩) (c30 : PySem.W.codeIn K cd30 "_law_word" = true) (k30 : PySem.W.keepIn K (.ref f30) = true)
    (z_ValueError : PySem.W.nsIn K mainGlobals "ValueError" = some none)
    (z_abs : PySem.W.nsIn K mainGlobals "abs" = some none)
    (z_all : PySem.W.nsIn K mainGlobals "all" = some none)
    (z_any : PySem.W.nsIn K mainGlobals "any" = some none)
    (z_bool : PySem.W.nsIn K mainGlobals "bool" = some none)
    (z_dict : PySem.W.nsIn K mainGlobals "dict" = some none)
    (z_enumerate : PySem.W.nsIn K mainGlobals "enumerate" = some none)
    (z_int : PySem.W.nsIn K mainGlobals "int" = some none)
    (z_isinstance : PySem.W.nsIn K mainGlobals "isinstance" = some none)
    (z_len : PySem.W.nsIn K mainGlobals "len" = some none)
    (z_list : PySem.W.nsIn K mainGlobals "list" = some none)
    (z_max : PySem.W.nsIn K mainGlobals "max" = some none)
    (z_min : PySem.W.nsIn K mainGlobals "min" = some none)
    (z_range : PySem.W.nsIn K mainGlobals "range" = some none)
    (z_sorted : PySem.W.nsIn K mainGlobals "sorted" = some none)
    (z_str : PySem.W.nsIn K mainGlobals "str" = some none)
    (z_sum : PySem.W.nsIn K mainGlobals "sum" = some none)
    (z_tuple : PySem.W.nsIn K mainGlobals "tuple" = some none)
    (e_LETTERS : PySem.W.nsIn K mainGlobals "LETTERS" = some (some (.str "abcdefghijklmnopqrstuvwxyz" t_LETTERS)))
    (e_FEWEST_HANDS : PySem.W.nsIn K mainGlobals "FEWEST_HANDS" = some (some (.int 2 t_FEWEST_HANDS)))
    (e_MOST_HANDS : PySem.W.nsIn K mainGlobals "MOST_HANDS" = some (some (.int 4 t_MOST_HANDS)))
    (e_MOST_LETTERS : PySem.W.nsIn K mainGlobals "MOST_LETTERS" = some (some (.int 6 t_MOST_LETTERS)))
    (e_MOST_ORDERS : PySem.W.nsIn K mainGlobals "MOST_ORDERS" = some (some (.int 500 t_MOST_ORDERS))) :
    ∃ fd : FuncData, (∀ (s : Shared) (v : Value), BindsTo s fd ⟨[v], []⟩ [("_law_script", v)]) ∧ ∀ base : Heap, K.In base → base.Ns mainGlobals mg → FnOk P w K mg base (L2N.CX P w) 11 fa fd ["_law_script"] (spTop K (List.replicate 1 false) m_law) := by
  have e := hfa.symm.trans (PySem.W.mg_of X G a29)
  cases e
  have B : Bi mg := ⟨PySem.W.mg_none_of X G z_ValueError, PySem.W.mg_none_of X G z_abs, PySem.W.mg_none_of X G z_all, PySem.W.mg_none_of X G z_any, PySem.W.mg_none_of X G z_bool, PySem.W.mg_none_of X G z_dict, PySem.W.mg_none_of X G z_enumerate, PySem.W.mg_none_of X G z_int, PySem.W.mg_none_of X G z_isinstance, PySem.W.mg_none_of X G z_len, PySem.W.mg_none_of X G z_list, PySem.W.mg_none_of X G z_max, PySem.W.mg_none_of X G z_min, PySem.W.mg_none_of X G z_range, PySem.W.mg_none_of X G z_sorted, PySem.W.mg_none_of X G z_str, PySem.W.mg_none_of X G z_sum, PySem.W.mg_none_of X G z_tuple, ⟨_, PySem.W.mg_of X G e_LETTERS⟩, ⟨_, PySem.W.mg_of X G e_FEWEST_HANDS⟩, ⟨_, PySem.W.mg_of X G e_MOST_HANDS⟩, ⟨_, PySem.W.mg_of X G e_MOST_LETTERS⟩, ⟨_, PySem.W.mg_of X G e_MOST_ORDERS⟩⟩
  have XT : ETx K mg CH [x0, x1, x2, x3, x4, x5, x6, x7, x8, x9, x10, x11, x12, x13, x14] := by
    refine ⟨⟨rfl, fun i C n hi hn => ?_, fun C hC => ?_, End, PySem.W.mg_of X G EgH, ⟨_, EqH, EmH⟩, EtH, Enn, Etk⟩, fun i n8 n11 C hi => ?_⟩
    · match i, hi, hn with
      | 0, hi, hn => cases hi; cases hn; exact PySem.W.mg_of X G Eg0
      | 1, hi, hn => cases hi; cases hn; exact PySem.W.mg_of X G Eg1
      | 2, hi, hn => cases hi; cases hn; exact PySem.W.mg_of X G Eg2
      | 3, hi, hn => cases hi; cases hn; exact PySem.W.mg_of X G Eg3
      | 4, hi, hn => cases hi; cases hn; exact PySem.W.mg_of X G Eg4
      | 5, hi, hn => cases hi; cases hn; exact PySem.W.mg_of X G Eg5
      | 6, hi, hn => cases hi; cases hn; exact PySem.W.mg_of X G Eg6
      | 7, hi, hn => cases hi; cases hn; exact PySem.W.mg_of X G Eg7
      | 8, hi, hn => cases hi; cases hn; exact PySem.W.mg_of X G Eg8
      | 9, hi, hn => cases hi; cases hn; exact PySem.W.mg_of X G Eg9
      | 10, hi, hn => cases hi; cases hn; exact PySem.W.mg_of X G Eg10
      | 11, hi, hn => cases hi; cases hn; exact PySem.W.mg_of X G Eg11
      | 12, hi, hn => cases hi; cases hn; exact PySem.W.mg_of X G Eg12
      | 13, hi, hn => cases hi; cases hn; exact PySem.W.mg_of X G Eg13
      | 14, hi, hn => cases hi; cases hn; exact PySem.W.mg_of X G Eg14
      | i + 15, hi, hn => simp at hi
    · simp only [List.mem_cons, List.not_mem_nil, or_false] at hC
      rcases hC with rfl | rfl | rfl | rfl | rfl | rfl | rfl | rfl | rfl | rfl | rfl | rfl | rfl | rfl | rfl
      · exact ⟨⟨_, Eq0, Em0⟩, Et0, Ep0, Ega0, Egt0, Eca0⟩
      · exact ⟨⟨_, Eq1, Em1⟩, Et1, Ep1, Ega1, Egt1, Eca1⟩
      · exact ⟨⟨_, Eq2, Em2⟩, Et2, Ep2, Ega2, Egt2, Eca2⟩
      · exact ⟨⟨_, Eq3, Em3⟩, Et3, Ep3, Ega3, Egt3, Eca3⟩
      · exact ⟨⟨_, Eq4, Em4⟩, Et4, Ep4, Ega4, Egt4, Eca4⟩
      · exact ⟨⟨_, Eq5, Em5⟩, Et5, Ep5, Ega5, Egt5, Eca5⟩
      · exact ⟨⟨_, Eq6, Em6⟩, Et6, Ep6, Ega6, Egt6, Eca6⟩
      · exact ⟨⟨_, Eq7, Em7⟩, Et7, Ep7, Ega7, Egt7, Eca7⟩
      · exact ⟨⟨_, Eq8, Em8⟩, Et8, Ep8, Ega8, Egt8, Eca8⟩
      · exact ⟨⟨_, Eq9, Em9⟩, Et9, Ep9, Ega9, Egt9, Eca9⟩
      · exact ⟨⟨_, Eq10, Em10⟩, Et10, Ep10, Ega10, Egt10, Eca10⟩
      · exact ⟨⟨_, Eq11, Em11⟩, Et11, Ep11, Ega11, Egt11, Eca11⟩
      · exact ⟨⟨_, Eq12, Em12⟩, Et12, Ep12, Ega12, Egt12, Eca12⟩
      · exact ⟨⟨_, Eq13, Em13⟩, Et13, Ep13, Ega13, Egt13, Eca13⟩
      · exact ⟨⟨_, Eq14, Em14⟩, Et14, Ep14, Ega14, Egt14, Eca14⟩
    · match i, n8, n11, hi with
      | 0, n8, n11, hi => cases hi; exact Eex0
      | 1, n8, n11, hi => cases hi; exact Eex1
      | 2, n8, n11, hi => cases hi; exact Eex2
      | 3, n8, n11, hi => cases hi; exact Eex3
      | 4, n8, n11, hi => cases hi; exact Eex4
      | 5, n8, n11, hi => cases hi; exact Eex5
      | 6, n8, n11, hi => cases hi; exact Eex6
      | 7, n8, n11, hi => cases hi; exact Eex7
      | 8, n8, n11, hi => exact absurd rfl n8
      | 9, n8, n11, hi => cases hi; exact Eex9
      | 10, n8, n11, hi => cases hi; exact Eex10
      | 11, n8, n11, hi => exact absurd rfl n11
      | 12, n8, n11, hi => cases hi; exact Eex12
      | 13, n8, n11, hi => cases hi; exact Eex13
      | 14, n8, n11, hi => cases hi; exact Eex14
      | i + 15, n8, n11, hi => simp at hi
  refine ⟨PySem.W.fnOf "law" "law" (defArgs s_law) (defBody s_law) (defScope s_law) .none kV29 dc29 pm29 an29 cd29 ct29, fun s v => .of_eq rfl, fun base _ _ => ?_⟩
  have C__law_word : CalH P w K mg base [x0, x1, x2, x3, x4, x5, x6, x7, x8, x9, x10, x11, x12, x13, x14] "_law_word" 2 := ok__law_word (fun_mk (st := s__law_word) l30 c30 k30) (PySem.W.mg_of X G a30) B XT
  have C__law_bag : Cal P w K mg base (RXP [x0, x1, x2, x3, x4, x5, x6, x7, x8, x9, x10, x11, x12, x13, x14]) "_law_bag" 1 (List.replicate 1 false) m__law_bag := ok__law_bag (fun_mk (st := s__law_bag) l0 c0 k0) (PySem.W.mg_of X G a0) B XT C__law_word 
  have C__law_take : Cal P w K mg base (RXP [x0, x1, x2, x3, x4, x5, x6, x7, x8, x9, x10, x11, x12, x13, x14]) "_law_take" 1 (true :: List.replicate 1 false) m__law_take := ok__law_take (fun_mk (st := s__law_take) l1 c1 k1) (PySem.W.mg_of X G a1) B XT C__law_word 
  have C__law_house : Cal P w K mg base (RXP [x0, x1, x2, x3, x4, x5, x6, x7, x8, x9, x10, x11, x12, x13, x14]) "_law_house" 2 (true :: List.replicate 0 false) m__law_house := ok__law_house (fun_mk (st := s__law_house) l2 c2 k2) (PySem.W.mg_of X G a2) B XT C__law_word C__law_take
  have C__law_row : Cal P w K mg base (RXP [x0, x1, x2, x3, x4, x5, x6, x7, x8, x9, x10, x11, x12, x13, x14]) "_law_row" 2 (true :: List.replicate 2 false) m__law_row := ok__law_row (fun_mk (st := s__law_row) l3 c3 k3) (PySem.W.mg_of X G a3) B XT C__law_word C__law_take
  have C__law_drawn : Cal P w K mg base (RXP [x0, x1, x2, x3, x4, x5, x6, x7, x8, x9, x10, x11, x12, x13, x14]) "_law_drawn" 3 (List.replicate 2 false) m__law_drawn := ok__law_drawn (fun_mk (st := s__law_drawn) l4 c4 k4) (PySem.W.mg_of X G a4) B XT C__law_word C__law_row C__law_house C__law_bag
  have C_is_whole : Cal P w K mg base (RXP [x0, x1, x2, x3, x4, x5, x6, x7, x8, x9, x10, x11, x12, x13, x14]) "is_whole" 1 (List.replicate 1 false) m_is_whole := ok_is_whole (fun_mk (st := s_is_whole) l5 c5 k5) (PySem.W.mg_of X G a5) B XT C__law_word 
  have C_is_sign : Cal P w K mg base (RXP [x0, x1, x2, x3, x4, x5, x6, x7, x8, x9, x10, x11, x12, x13, x14]) "is_sign" 1 (List.replicate 1 false) m_is_sign := ok_is_sign (fun_mk (st := s_is_sign) l6 c6 k6) (PySem.W.mg_of X G a6) B XT C__law_word 
  have C_is_rising : Cal P w K mg base (RXP [x0, x1, x2, x3, x4, x5, x6, x7, x8, x9, x10, x11, x12, x13, x14]) "is_rising" 2 (List.replicate 2 false) m_is_rising := ok_is_rising (fun_mk (st := s_is_rising) l7 c7 k7) (PySem.W.mg_of X G a7) B XT C__law_word C_is_whole
  have C_is_entry : Cal P w K mg base (RXP [x0, x1, x2, x3, x4, x5, x6, x7, x8, x9, x10, x11, x12, x13, x14]) "is_entry" 3 (List.replicate 2 false) m_is_entry := ok_is_entry (fun_mk (st := s_is_entry) l8 c8 k8) (PySem.W.mg_of X G a8) B XT C__law_word C_is_rising C_is_sign
  have C_is_house : Cal P w K mg base (RXP [x0, x1, x2, x3, x4, x5, x6, x7, x8, x9, x10, x11, x12, x13, x14]) "is_house" 4 (List.replicate 1 false) m_is_house := ok_is_house (fun_mk (st := s_is_house) l9 c9 k9) (PySem.W.mg_of X G a9) B XT C__law_word C_is_entry C_is_whole
  have C_look_house : Cal P w K mg base (RXP [x0, x1, x2, x3, x4, x5, x6, x7, x8, x9, x10, x11, x12, x13, x14]) "look_house" 5 (List.replicate 1 false) m_look_house := ok_look_house (fun_mk (st := s_look_house) l10 c10 k10) (PySem.W.mg_of X G a10) B XT C__law_word C_is_house
  have C_letters_of : Cal P w K mg base (RXP [x0, x1, x2, x3, x4, x5, x6, x7, x8, x9, x10, x11, x12, x13, x14]) "letters_of" 1 (List.replicate 1 false) m_letters_of := ok_letters_of (fun_mk (st := s_letters_of) l11 c11 k11) (PySem.W.mg_of X G a11) B XT C__law_word 
  have C_is_row : Cal P w K mg base (RXP [x0, x1, x2, x3, x4, x5, x6, x7, x8, x9, x10, x11, x12, x13, x14]) "is_row" 6 (List.replicate 2 false) m_is_row := ok_is_row (fun_mk (st := s_is_row) l12 c12 k12) (PySem.W.mg_of X G a12) B XT C__law_word C_letters_of C_look_house
  have C_look_row : Cal P w K mg base (RXP [x0, x1, x2, x3, x4, x5, x6, x7, x8, x9, x10, x11, x12, x13, x14]) "look_row" 7 (List.replicate 2 false) m_look_row := ok_look_row (fun_mk (st := s_look_row) l13 c13 k13) (PySem.W.mg_of X G a13) B XT C__law_word C_is_row
  have C_look_both : Cal P w K mg base (RXP [x0, x1, x2, x3, x4, x5, x6, x7, x8, x9, x10, x11, x12, x13, x14]) "look_both" 8 (List.replicate 2 false) m_look_both := ok_look_both (fun_mk (st := s_look_both) l14 c14 k14) (PySem.W.mg_of X G a14) B XT C__law_word C_look_row C_look_house
  have C_places_by_letter : Cal P w K mg base (RXP [x0, x1, x2, x3, x4, x5, x6, x7, x8, x9, x10, x11, x12, x13, x14]) "places_by_letter" 1 (List.replicate 2 false) m_places_by_letter := ok_places_by_letter (fun_mk (st := s_places_by_letter) l15 c15 k15) (PySem.W.mg_of X G a15) B XT C__law_word 
  have C_number_of : Cal P w K mg base (RXP [x0, x1, x2, x3, x4, x5, x6, x7, x8, x9, x10, x11, x12, x13, x14]) "number_of" 2 (List.replicate 2 false) m_number_of := ok_number_of (fun_mk (st := s_number_of) l16 c16 k16) (PySem.W.mg_of X G a16) B XT C__law_word C_letters_of
  have C_own_of : Cal P w K mg base (RXP [x0, x1, x2, x3, x4, x5, x6, x7, x8, x9, x10, x11, x12, x13, x14]) "own_of" 3 (List.replicate 2 false) m_own_of := ok_own_of (fun_mk (st := s_own_of) l17 c17 k17) (PySem.W.mg_of X G a17) B XT C__law_word C_number_of
  have C_bits_below : Cal P w K mg base (RXP [x0, x1, x2, x3, x4, x5, x6, x7, x8, x9, x10, x11, x12, x13, x14]) "bits_below" 4 (List.replicate 2 false) m_bits_below := ok_bits_below (fun_mk (st := s_bits_below) l18 c18 k18) (PySem.W.mg_of X G a18) B XT C__law_word C_own_of
  have C_next_places : Cal P w K mg base (RXP [x0, x1, x2, x3, x4, x5, x6, x7, x8, x9, x10, x11, x12, x13, x14]) "next_places" 1 (List.replicate 4 false) m_next_places := ok_next_places (fun_mk (st := s_next_places) l19 c19 k19) (PySem.W.mg_of X G a19) B XT C__law_word 
  have C_more_of : Cal P w K mg base (RXP [x0, x1, x2, x3, x4, x5, x6, x7, x8, x9, x10, x11, x12, x13, x14]) "more_of" 1 (List.replicate 2 false) m_more_of := ok_more_of (fun_mk (st := s_more_of) l20 c20 k20) (PySem.W.mg_of X G a20) B XT C__law_word 
  have C_counted : Cal P w K mg base (RXP [x0, x1, x2, x3, x4, x5, x6, x7, x8, x9, x10, x11, x12, x13, x14]) "counted" 5 (List.replicate 2 false) m_counted := ok_counted (fun_mk (st := s_counted) l21 c21 k21) (PySem.W.mg_of X G a21) B XT C__law_word C_next_places C_more_of C_bits_below C_places_by_letter
  have C_orders : Cal P w K mg base (RXP [x0, x1, x2, x3, x4, x5, x6, x7, x8, x9, x10, x11, x12, x13, x14]) "orders" 9 (List.replicate 2 false) m_orders := ok_orders (fun_mk (st := s_orders) l22 c22 k22) (PySem.W.mg_of X G a22) B XT C__law_word C_next_places C_more_of C_bits_below C_places_by_letter C_counted C_look_both
  have C__law_asked : Cal P w K mg base (RXP [x0, x1, x2, x3, x4, x5, x6, x7, x8, x9, x10, x11, x12, x13, x14]) "_law_asked" 10 (List.replicate 2 false) m__law_asked := ok__law_asked (fun_mk (st := s__law_asked) l23 c23 k23) (PySem.W.mg_of X G a23) B XT C__law_word C_orders
  have C__law_hang : Cal P w K mg base (RXP [x0, x1, x2, x3, x4, x5, x6, x7, x8, x9, x10, x11, x12, x13, x14]) "_law_hang" 1 (List.replicate 3 false) m__law_hang := ok__law_hang (fun_mk (st := s__law_hang) l24 c24 k24) (PySem.W.mg_of X G a24) B XT C__law_word 
  have C__law_below : Cal P w K mg base (RXP [x0, x1, x2, x3, x4, x5, x6, x7, x8, x9, x10, x11, x12, x13, x14]) "_law_below" 2 (List.replicate 2 false) m__law_below := ok__law_below (fun_mk (st := s__law_below) l25 c25 k25) (PySem.W.mg_of X G a25) B XT C__law_word C__law_hang
  have C__law_counted : Cal P w K mg base (RXP [x0, x1, x2, x3, x4, x5, x6, x7, x8, x9, x10, x11, x12, x13, x14]) "_law_counted" 3 (List.replicate 2 false) m__law_counted := ok__law_counted (fun_mk (st := s__law_counted) l26 c26 k26) (PySem.W.mg_of X G a26) B XT C__law_word C__law_below
  have C__law_all_rows : Cal P w K mg base (RXP [x0, x1, x2, x3, x4, x5, x6, x7, x8, x9, x10, x11, x12, x13, x14]) "_law_all_rows" 2 (List.replicate 2 false) m__law_all_rows := ok__law_all_rows (fun_mk (st := s__law_all_rows) l27 c27 k27) (PySem.W.mg_of X G a27) B XT C__law_word C__law_hang
  have C__law_cell : Cal P w K mg base (RXP [x0, x1, x2, x3, x4, x5, x6, x7, x8, x9, x10, x11, x12, x13, x14]) "_law_cell" 1 (List.replicate 2 false) m__law_cell := ok__law_cell (fun_mk (st := s__law_cell) l28 c28 k28) (PySem.W.mg_of X G a28) B XT C__law_word 
  exact fnOk_top (ok_law_fn (fun_mk (st := s_law) l29 c29 k29) B XT C__law_word C__law_asked C__law_all_rows C__law_counted C__law_take C__law_row C__law_drawn C__law_cell)
end Law
namespace Law
open PySem PySem.Spec PyProof.Rows L2 Hap M
section
variable {h : Nat} {L : List (Nat × List Nat)} {R : List Nat}
theorem add_disj {x y : Nat} (h : x &&& y = 0) : x + y = x ||| y := by
  have hx : x < 2 ^ (x + y + 1) := by have := Nat.lt_two_pow_self (n := x + y + 1); omega
  have hy : y < 2 ^ (x + y + 1) := by have := Nat.lt_two_pow_self (n := x + y + 1); omega
  have hs : x + y < 2 ^ (x + y + 1) := by have := Nat.lt_two_pow_self (n := x + y + 1); omega
  have ho : x ||| y < 2 ^ (x + y + 1) := Nat.or_lt_two_pow hx hy
  have e := BitVec.add_eq_or_of_and_eq_zero (BitVec.ofNat (x + y + 1) x) (BitVec.ofNat (x + y + 1) y) (by
    apply BitVec.eq_of_toNat_eq
    rw [BitVec.toNat_and, BitVec.toNat_ofNat, BitVec.toNat_ofNat, Nat.mod_eq_of_lt hx, Nat.mod_eq_of_lt hy, h]; rfl)
  have e := congrArg BitVec.toNat e
  rw [BitVec.toNat_add, BitVec.toNat_or, BitVec.toNat_ofNat, BitVec.toNat_ofNat, Nat.mod_eq_of_lt hx, Nat.mod_eq_of_lt hy, Nat.mod_eq_of_lt hs] at e
  exact e
theorem and_le' {x y : Nat} : x &&& y ≤ x := Nat.and_le_left
theorem disj_pow {x p : Nat} (h : x.testBit p = false) : x &&& 2 ^ p = 0 := by
  apply Nat.eq_of_testBit_eq
  intro i
  rw [Nat.testBit_and, Nat.testBit_two_pow, Nat.zero_testBit]
  by_cases e : p = i
  · subst e; rw [h]; rfl
  · simp [e]
theorem bit_or_pow {b p i : Nat} : (b ||| 2 ^ p).testBit i = (b.testBit i || decide (p = i)) := by rw [Nat.testBit_or, Nat.testBit_two_pow]
/-- all of a but p is in b -/
theorem need_iff {a b p : Nat} (hp : b.testBit p = false) : a - (a &&& b) = 2 ^ p ↔ a.testBit p = true ∧ ∀ i, a.testBit i = true → i = p ∨ b.testBit i = true := by
  have hd : (a &&& b).testBit p = false := by rw [Nat.testBit_and, hp, Bool.and_false]
  have hs : (a &&& b) + 2 ^ p = (a &&& b) ||| 2 ^ p := add_disj (disj_pow hd)
  have hl : a &&& b ≤ a := and_le'
  constructor
  · intro e
    have e2 : a = (a &&& b) ||| 2 ^ p := by omega
    have bit : ∀ i, a.testBit i = ((a.testBit i && b.testBit i) || decide (p = i)) := fun i => by
      have := congrArg (fun z => Nat.testBit z i) e2
      simp only [bit_or_pow, Nat.testBit_and] at this
      exact this
    refine ⟨by rw [bit p]; simp, fun i hi => ?_⟩
    have := bit i
    rw [hi] at this
    by_cases c : p = i
    · exact .inl c.symm
    · right; simpa [c] using this
  · rintro ⟨h1, h2⟩
    have e : a = (a &&& b) ||| 2 ^ p := by
      apply Nat.eq_of_testBit_eq
      intro i
      rw [bit_or_pow, Nat.testBit_and]
      cases hi : a.testBit i with
      | false =>
        have : ¬ p = i := fun z => by rw [← z, h1] at hi; cases hi
        simp [this]
      | true =>
        rcases h2 i hi with z | z
        · simp [z]
        · simp [z]
    omega
theorem xor_pow {b p i : Nat} : (b ^^^ 2 ^ p).testBit i = (b.testBit i ^^ decide (p = i)) := by rw [Nat.testBit_xor, Nat.testBit_two_pow]
/-- with each deed all that are below it -/
def Cl (L : List (Nat × List Nat)) (R : List Nat) (b : Nat) : Prop := b < 2 ^ R.length ∧ ∀ i j, b.testBit j = true → Below L R i j → b.testBit i = true
def cdB (n b : Nat) : Nat := ((List.range n).filter b.testBit).length
def plR (R : List Nat) (l : Nat) : List Nat := (List.range R.length).filter fun j => decide (lt R j = l)
def cnR (R : List Nat) (b l : Nat) : Nat := ((plR R l).filter b.testBit).length
def cnsR (L : List (Nat × List Nat)) (R : List Nat) (b : Nat) : List Nat := L.map fun e => cnR R b e.1
def nxP (R : List Nat) (b l : Nat) : Option Nat := (plR R l)[cnR R b l]?
theorem Cl.lt {b i : Nat} (C : Cl L R b) (h : b.testBit i = true) : i < R.length := by
  by_cases c : i < R.length
  · exact c
  · rw [Nat.testBit_lt_two_pow (Nat.lt_of_lt_of_le C.1 (Nat.pow_le_pow_right (by omega) (by omega)))] at h; cases h
theorem mem_pl {l j : Nat} : j ∈ plR R l ↔ j < R.length ∧ lt R j = l := by
  unfold plR
  rw [List.mem_filter, List.mem_range, decide_eq_true_eq]
theorem pl_rise {l : Nat} : (plR R l).Pairwise (· < ·) := List.Pairwise.filter _ List.pairwise_lt_range
theorem hang_self (H : House h L) (hR : RowOk L R) {i : Nat} (hi : i < R.length) : Hang L (lt R i) (lt R i) := by
  obtain ⟨e, he, ee⟩ := lt_ok hR hi
  have ho := ow_mem H.rise he
  have ne := (H.own e he).ne
  rw [← ee]
  unfold Hang
  rw [ho]
  cases h2 : e.2 with
  | nil => exact (ne h2).elim
  | cons x xs => exact ⟨x, List.mem_cons_self, List.mem_cons_self⟩
theorem below_same (H : House h L) (hR : RowOk L R) {i j : Nat} (hij : i ≤ j) (hj : j < R.length) (e : lt R i = lt R j) : Below L R i j := by
  by_cases c : i = j
  · subst c; exact .refl _
  · refine .tail (.refl i) (by omega) ?_
    rw [e]; exact hang_self H hR hj
theorem filter_take {α : Type} {p : α → Bool} : ∀ {l : List α}, l.Pairwise (fun x y => p y = true → p x = true) → l.filter p = l.take (l.filter p).length
  | [], _ => rfl
  | x :: l, h => by
    rw [List.pairwise_cons] at h
    cases hx : p x with
    | true =>
      rw [List.filter_cons_of_pos hx, List.length_cons, List.take_succ_cons, ← filter_take h.2]
    | false =>
      have : (x :: l).filter p = [] := by
        rw [List.filter_eq_nil_iff]
        intro y hy
        rcases List.mem_cons.mp hy with rfl | hy
        · rw [hx]; simp
        · intro z; rw [h.1 y hy z] at hx; cases hx
      rw [this]; rfl
theorem cn_take (H : House h L) (hR : RowOk L R) {b l : Nat} (C : Cl L R b) : (plR R l).filter b.testBit = (plR R l).take (cnR R b l) := by
  unfold cnR
  refine filter_take ?_
  have := pl_rise (R := R) (l := l)
  refine List.Pairwise.imp_of_mem ?_ this
  intro x y hx hy hlt hb
  obtain ⟨x1, x2⟩ := mem_pl.mp hx
  obtain ⟨y1, y2⟩ := mem_pl.mp hy
  exact C.2 x y hb (below_same H hR (by omega) y1 (by rw [x2, y2]))
theorem cn_le {b l : Nat} : cnR R b l ≤ (plR R l).length := List.length_filter_le _ _
theorem nx_props (H : House h L) (hR : RowOk L R) {b l p : Nat} (C : Cl L R b) (e : nxP R b l = some p) : p < R.length ∧ lt R p = l ∧ b.testBit p = false := by
  unfold nxP at e
  obtain ⟨hc, hp⟩ := List.getElem?_eq_some_iff.mp e
  obtain ⟨h1, h2⟩ := mem_pl.mp (List.mem_of_getElem? e)
  refine ⟨h1, h2, ?_⟩
  cases hb : b.testBit p with
  | false => rfl
  | true =>
    exfalso
    have hm : p ∈ (plR R l).filter b.testBit := List.mem_filter.mpr ⟨List.mem_of_getElem? e, hb⟩
    rw [cn_take H hR C] at hm
    obtain ⟨k, hk, ek⟩ := List.mem_iff_getElem.mp hm
    rw [List.length_take] at hk
    rw [List.getElem_take] at ek
    have := List.pairwise_iff_getElem.mp (pl_rise (R := R) (l := l)) k (cnR R b l) (by omega) hc (by omega)
    omega
theorem nx_of (H : House h L) (hR : RowOk L R) {b p : Nat} (C : Cl L R b) (hp : p < R.length) (hb : b.testBit p = false) (ha : ∀ i, Below L R i p → i = p ∨ b.testBit i = true) : nxP R b (lt R p) = some p := by
  have hm : p ∈ plR R (lt R p) := mem_pl.mpr ⟨hp, rfl⟩
  obtain ⟨k, hk, ek⟩ := List.mem_iff_getElem.mp hm
  have rise := List.pairwise_iff_getElem.mp (pl_rise (R := R) (l := lt R p))
  have ct := cn_take H hR C (l := lt R p)
  have c1 : ¬ k < cnR R b (lt R p) := fun c => by
    have : p ∈ (plR R (lt R p)).take (cnR R b (lt R p)) := List.mem_iff_getElem.mpr ⟨k, by rw [List.length_take]; omega, by rw [List.getElem_take]; exact ek⟩
    rw [← ct] at this
    rw [(List.mem_filter.mp this).2] at hb; cases hb
  have c2 : ¬ cnR R b (lt R p) < k := fun c => by
    have hq : cnR R b (lt R p) < (plR R (lt R p)).length := by omega
    obtain ⟨q, eq⟩ : ∃ q, (plR R (lt R p))[cnR R b (lt R p)] = q := ⟨_, rfl⟩
    have hn : nxP R b (lt R p) = some q := by unfold nxP; rw [List.getElem?_eq_getElem hq, eq]
    obtain ⟨q1, q2, q3⟩ := nx_props H hR C hn
    have lq := rise _ _ hq hk c
    rw [eq, ek] at lq
    rcases ha q (below_same H hR (by omega) hp q2) with z | z
    · omega
    · rw [z] at q3; cases q3
  have : k = cnR R b (lt R p) := by omega
  unfold nxP
  rw [← this, List.getElem?_eq_getElem hk, ek]
theorem pow_lt_pow' {p n : Nat} (h : p < n) : 2 ^ p < 2 ^ n := Nat.pow_lt_pow_right (by omega) h
theorem cl_add {b p : Nat} (C : Cl L R b) (hp : p < R.length) (ha : ∀ i, Below L R i p → i = p ∨ b.testBit i = true) : Cl L R (b ||| 2 ^ p) := by
  refine ⟨Nat.or_lt_two_pow C.1 (pow_lt_pow' hp), fun i j hj hb => ?_⟩
  rw [bit_or_pow, Bool.or_eq_true, decide_eq_true_eq] at hj ⊢
  rcases hj with hj | rfl
  · exact .inl (C.2 i j hj hb)
  · rcases ha i hb with z | z
    · exact .inr z.symm
    · exact .inl z
theorem cl_zero : Cl L R 0 := ⟨Nat.two_pow_pos _, fun i j hj => by rw [Nat.zero_testBit] at hj; cases hj⟩
theorem filter_add {p : Nat} {q q' : Nat → Bool} (hq : ∀ i, q' i = (q i || decide (p = i))) (hp : q p = false) : ∀ {l : List Nat}, l.Nodup → (l.filter q').length = (l.filter q).length + if p ∈ l then 1 else 0
  | [], _ => rfl
  | x :: l, h => by
    rw [List.nodup_cons] at h
    have ih := filter_add hq hp h.2
    rw [List.filter_cons, List.filter_cons, hq x]
    by_cases c : p = x
    · subst c
      rw [hp]
      simp [ih, h.1]
    · have e : (p ∈ x :: l) ↔ p ∈ l := by simp [c]
      simp only [c, decide_false, Bool.or_false, e]
      cases q x <;> simp [ih]
      omega
theorem cd_add {n b p : Nat} (hp : p < n) (hb : b.testBit p = false) : cdB n (b ||| 2 ^ p) = cdB n b + 1 := by
  unfold cdB
  rw [filter_add (fun i => bit_or_pow) hb List.nodup_range, if_pos (List.mem_range.mpr hp)]
theorem pl_nodup {l : Nat} : (plR R l).Nodup := List.Nodup.sublist List.filter_sublist List.nodup_range
theorem cn_add {b p l : Nat} (hp : p < R.length) (hb : b.testBit p = false) : cnR R (b ||| 2 ^ p) l = cnR R b l + if lt R p = l then 1 else 0 := by
  unfold cnR
  rw [filter_add (fun i => bit_or_pow) hb pl_nodup]
  congr 1
  by_cases c : lt R p = l
  · rw [if_pos (mem_pl.mpr ⟨hp, c⟩), if_pos c]
  · rw [if_neg (fun z => c (mem_pl.mp z).2), if_neg c]
theorem cns_add (H : House h L) {b p a : Nat} (hp : p < R.length) (hb : b.testBit p = false) (ha : a < L.length) (e : (L.getD a (0, [])).1 = lt R p) : cnsR L R (b ||| 2 ^ p) = (cnsR L R b).set a ((cnsR L R b).getD a 0 + 1) := by
  unfold cnsR
  apply List.ext_getElem?
  intro i
  rw [List.getElem?_set, List.getElem?_map, List.length_map, List.getElem?_map]
  have ea : (L.getD a (0, [])) = L[a] := by rw [List.getD_eq_getElem?_getD, List.getElem?_eq_getElem ha]; rfl
  rw [ea] at e
  by_cases hi : i < L.length
  · rw [List.getElem?_eq_getElem hi]
    by_cases c : a = i
    · subst c
      rw [if_pos rfl, if_pos ha, List.getD_eq_getElem?_getD, List.getElem?_map, List.getElem?_eq_getElem ha]
      simp [cn_add hp hb, e]
    · rw [if_neg c]
      have ne : ¬ lt R p = L[i].1 := fun z => by
        rw [← e] at z
        have r := List.pairwise_iff_getElem.mp H.rise
        rcases Nat.lt_or_gt_of_ne c with q | q
        · have := r a i ha hi q; omega
        · have := r i a hi ha q; omega
      simp [cn_add hp hb, ne]
  · rw [List.getElem?_eq_none (by omega)]
    by_cases c : a = i
    · omega
    · rw [if_neg c]; rfl
theorem cns_inj (H : House h L) (hR : RowOk L R) {b c : Nat} (B : Cl L R b) (C : Cl L R c) (e : cnsR L R b = cnsR L R c) : b = c := by
  apply Nat.eq_of_testBit_eq
  intro i
  by_cases hi : i < R.length
  · obtain ⟨f, hf, ef⟩ := lt_ok hR hi
    have ec : cnR R b (lt R i) = cnR R c (lt R i) := by
      rw [← ef]
      have := List.map_inj_left.mp e f hf
      exact this
    have e1 := cn_take H hR B (l := lt R i)
    rw [ec, ← cn_take H hR C] at e1
    have hm : i ∈ plR R (lt R i) := mem_pl.mpr ⟨hi, rfl⟩
    have : i ∈ (plR R (lt R i)).filter b.testBit ↔ i ∈ (plR R (lt R i)).filter c.testBit := by rw [e1]
    rw [List.mem_filter, List.mem_filter] at this
    simp only [hm, true_and] at this
    rw [Bool.eq_iff_iff]; exact this
  · rw [Bool.eq_iff_iff]
    exact ⟨fun z => (hi (B.lt z)).elim, fun z => (hi (C.lt z)).elim⟩
theorem Cl.top {b : Nat} (C : Cl L R b) {i : Nat} (hc : cdB R.length b = i + 1) : ∃ j c, Cl L R c ∧ cdB R.length c = i ∧ c.testBit j = false ∧ j < R.length ∧ b = c ||| 2 ^ j ∧ ∀ q, Below L R q j → q = j ∨ c.testBit q = true := by
  have ne : (List.range R.length).filter b.testBit ≠ [] := fun z => by unfold cdB at hc; rw [z] at hc; simp at hc
  obtain ⟨j, hjl⟩ : ∃ j, ((List.range R.length).filter b.testBit).getLast? = some j := ⟨_, List.getLast?_eq_some_getLast ne⟩
  have hjm := List.mem_of_getLast? hjl
  obtain ⟨hj, hbj⟩ := List.mem_filter.mp hjm
  have hj := List.mem_range.mp hj
  have mx : ∀ q, b.testBit q = true → q ≤ j := fun q hq => by
    have hqm : q ∈ (List.range R.length).filter b.testBit := List.mem_filter.mpr ⟨List.mem_range.mpr (C.lt hq), hq⟩
    have rise : ((List.range R.length).filter b.testBit).Pairwise (· < ·) := List.Pairwise.filter _ List.pairwise_lt_range
    obtain ⟨k, hk, ek⟩ := List.mem_iff_getElem.mp hqm
    rw [List.getLast?_eq_getElem?] at hjl
    obtain ⟨hl, el⟩ := List.getElem?_eq_some_iff.mp hjl
    by_cases z : k = ((List.range R.length).filter b.testBit).length - 1
    · subst z; omega
    · have := List.pairwise_iff_getElem.mp rise k _ hk hl (by omega)
      omega
  have bit : ∀ i, (b ^^^ 2 ^ j).testBit i = (b.testBit i ^^ decide (j = i)) := fun i => xor_pow
  have cj : (b ^^^ 2 ^ j).testBit j = false := by rw [bit, hbj]; simp
  have eb : b = (b ^^^ 2 ^ j) ||| 2 ^ j := by
    apply Nat.eq_of_testBit_eq
    intro q
    rw [bit_or_pow, bit]
    by_cases c : j = q
    · subst c; simp [hbj]
    · simp [c]
  have cc : Cl L R (b ^^^ 2 ^ j) := by
    refine ⟨Nat.xor_lt_two_pow C.1 (pow_lt_pow' hj), fun p q hq hb => ?_⟩
    rw [bit] at hq ⊢
    by_cases c : j = q
    · subst c; rw [hbj] at hq; simp at hq
    · simp only [c, decide_false, Bool.xor_false] at hq
      have h1 := C.2 p q hq hb
      have h2 := mx q hq
      have h3 := hb.le
      have : ¬ j = p := by omega
      simp [this, h1]
  refine ⟨j, b ^^^ 2 ^ j, cc, ?_, cj, hj, eb, fun q hq => ?_⟩
  · have := cd_add hj cj
    rw [← eb, hc] at this
    omega
  · by_cases z : q = j
    · exact .inl z
    · right
      rw [bit]
      have : ¬ j = q := fun w => z w.symm
      simp [this, C.2 q j hbj hq]
def okB (Bs : List Nat) (b p : Nat) : Bool := decide (Bs.getD p 0 - (Bs.getD p 0 &&& b) = 2 ^ p)
structure NeedOk (L : List (Nat × List Nat)) (R Bs : List Nat) : Prop where
  len : Bs.length = R.length
  bits : ∀ j, j < R.length → ∀ i, (Bs.getD j 0).testBit i = true ↔ Below L R i j
theorem ok_iff {Bs : List Nat} (N : NeedOk L R Bs) {b p : Nat} (hp : p < R.length) (hb : b.testBit p = false) : okB Bs b p = true ↔ ∀ i, Below L R i p → i = p ∨ b.testBit i = true := by
  unfold okB
  rw [decide_eq_true_eq, need_iff hb]
  constructor
  · rintro ⟨_, h⟩ i hi; exact h i ((N.bits p hp i).mpr hi)
  · intro h; exact ⟨(N.bits p hp p).mpr (.refl _), fun i hi => h i ((N.bits p hp i).mp hi)⟩
abbrev En := List Nat × Nat × Nat
def putE (acc : List En) (key : List Nat) (m b : Nat) : List En := if key ∈ acc.map (·.1) then acc.map fun e => if e.1 = key then (key, e.2.1 + m, b) else e else acc ++ [(key, m, b)]
def moreE (c : List Nat) (a : Nat) : List Nat := c.set a (c.getD a 0 + 1)
def addE (e : En) (acc : List En) (ap : Nat × Nat) : List En := putE acc (moreE e.1 ap.1) e.2.1 (e.2.2 ||| 2 ^ ap.2)
def nxtA (Bs : List Nat) (L : List (Nat × List Nat)) (R : List Nat) (b a : Nat) : Option (Nat × Nat) := match nxP R b (L.getD a (0, [])).1 with
  | some p => if okB Bs b p = true then some (a, p) else none
  | none => none
def nextsB (Bs : List Nat) (L : List (Nat × List Nat)) (R : List Nat) (b : Nat) : List (Nat × Nat) := (List.range L.length).filterMap (nxtA Bs L R b)
def spreadE (Bs : List Nat) (L : List (Nat × List Nat)) (R : List Nat) (acc : List En) (e : En) : List En := (nextsB Bs L R e.2.2).foldl (addE e) acc
def stepE (Bs : List Nat) (L : List (Nat × List Nat)) (R : List Nat) (lay : List En) : List En := lay.foldl (spreadE Bs L R) []
def layE (Bs : List Nat) (L : List (Nat × List Nat)) (R : List Nat) : Nat → List En
  | 0 => [(L.map fun _ => 0, 1, 0)]
  | k + 1 => stepE Bs L R (layE Bs L R k)
/-- each once, of one size -/
structure PInv (L : List (Nat × List Nat)) (R : List Nat) (i : Nat) (acc : List En) : Prop where
  nd : (acc.map (·.1)).Nodup
  en : ∀ e ∈ acc, Cl L R e.2.2 ∧ cdB R.length e.2.2 = i ∧ e.1 = cnsR L R e.2.2
theorem PInv.nil {i : Nat} : PInv L R i [] := ⟨by simp, fun e he => by cases he⟩
theorem PInv.inj (H : House h L) (hR : RowOk L R) {i : Nat} {acc : List En} (I : PInv L R i acc) : (acc.map fun e => e.2.2).Nodup := by
  have nd := I.nd
  rw [List.nodup_iff_pairwise_ne, List.pairwise_map] at nd ⊢
  refine List.Pairwise.imp_of_mem (fun {x y} hx hy h z => h ?_) nd
  rw [(I.en x hx).2.2, (I.en y hy).2.2, z]
theorem PInv.put (H : House h L) (hR : RowOk L R) {i : Nat} {acc : List En} (I : PInv L R i acc) {m b : Nat} (C : Cl L R b) (hc : cdB R.length b = i) : PInv L R i (putE acc (cnsR L R b) m b) := by
  unfold putE
  split
  · rename_i hm
    refine ⟨?_, fun e he => ?_⟩
    · rw [List.map_map]
      have : (fun e : En => (if e.1 = cnsR L R b then (cnsR L R b, e.2.1 + m, b) else e).1) = fun e : En => e.1 := by
        funext e
        by_cases c : e.1 = cnsR L R b
        · rw [if_pos c]; exact c.symm
        · rw [if_neg c]
      show (acc.map fun e : En => (if e.1 = cnsR L R b then (cnsR L R b, e.2.1 + m, b) else e).1).Nodup
      rw [this]; exact I.nd
    · obtain ⟨f, hf, rfl⟩ := List.mem_map.mp he
      by_cases c : f.1 = cnsR L R b
      · rw [if_pos c]; exact ⟨C, hc, rfl⟩
      · rw [if_neg c]; exact I.en f hf
  · rename_i hm
    refine ⟨?_, fun e he => ?_⟩
    · rw [List.map_append, List.nodup_append]
      refine ⟨I.nd, by simp, fun a ha b hb z => ?_⟩
      simp at hb
      subst hb; subst z; exact hm ha
    · rcases List.mem_append.mp he with he | he
      · exact I.en e he
      · rw [List.mem_singleton] at he; subst he; exact ⟨C, hc, rfl⟩
theorem put_has (H : House h L) (hR : RowOk L R) {i : Nat} {acc : List En} (I : PInv L R i acc) {m b : Nat} (C : Cl L R b) {c : Nat} : (∃ e ∈ putE acc (cnsR L R b) m b, e.2.2 = c) ↔ (∃ e ∈ acc, e.2.2 = c) ∨ c = b := by
  unfold putE
  split
  · rename_i hm
    constructor
    · rintro ⟨e, he, rfl⟩
      obtain ⟨f, hf, rfl⟩ := List.mem_map.mp he
      by_cases z : f.1 = cnsR L R b
      · rw [if_pos z]; exact .inr rfl
      · rw [if_neg z]; exact .inl ⟨f, hf, rfl⟩
    · rintro (⟨f, hf, rfl⟩ | rfl)
      · refine ⟨_, List.mem_map.mpr ⟨f, hf, rfl⟩, ?_⟩
        by_cases z : f.1 = cnsR L R b
        · rw [if_pos z]
          obtain ⟨f1, f2, f3⟩ := I.en f hf
          rw [f3] at z
          exact (cns_inj H hR f1 C z).symm
        · rw [if_neg z]
      · obtain ⟨f, hf, ef⟩ := List.mem_map.mp hm
        exact ⟨_, List.mem_map.mpr ⟨f, hf, rfl⟩, by rw [if_pos ef]⟩
  · constructor
    · rintro ⟨e, he, rfl⟩
      rcases List.mem_append.mp he with he | he
      · exact .inl ⟨e, he, rfl⟩
      · rw [List.mem_singleton] at he; subst he; exact .inr rfl
    · rintro (⟨f, hf, rfl⟩ | rfl)
      · exact ⟨f, List.mem_append_left _ hf, rfl⟩
      · exact ⟨_, List.mem_append_right _ (List.mem_singleton.mpr rfl), rfl⟩
theorem next_mem {Bs : List Nat} {b a p : Nat} : (a, p) ∈ nextsB Bs L R b ↔ a < L.length ∧ nxP R b (L.getD a (0, [])).1 = some p ∧ okB Bs b p = true := by
  unfold nextsB
  rw [List.mem_filterMap]
  constructor
  · rintro ⟨a', h1, h2⟩
    unfold nxtA at h2
    split at h2
    · rename_i p' hp'
      split at h2
      · rename_i ho
        cases h2
        exact ⟨List.mem_range.mp h1, hp', ho⟩
      · cases h2
    · cases h2
  · rintro ⟨h1, h2, h3⟩
    refine ⟨a, List.mem_range.mpr h1, ?_⟩
    unfold nxtA
    rw [h2]
    simp [h3]
structure NxOk (L : List (Nat × List Nat)) (R : List Nat) (b a p : Nat) : Prop where
  ha : a < L.length
  hp : p < R.length
  out : b.testBit p = false
  lt : (L.getD a (0, [])).1 = lt R p
  be : ∀ i, Below L R i p → i = p ∨ b.testBit i = true
theorem nxt_ok (H : House h L) (hR : RowOk L R) {Bs : List Nat} (N : NeedOk L R Bs) {b a p : Nat} (C : Cl L R b) (hm : (a, p) ∈ nextsB Bs L R b) : NxOk L R b a p := by
  obtain ⟨h1, h2, h3⟩ := next_mem.mp hm
  obtain ⟨p1, p2, p3⟩ := nx_props H hR C h2
  exact ⟨h1, p1, p3, p2.symm, (ok_iff N p1 p3).mp h3⟩
theorem NxOk.more (H : House h L) {b a p : Nat} (X : NxOk L R b a p) : moreE (cnsR L R b) a = cnsR L R (b ||| 2 ^ p) := (cns_add H X.hp X.out X.ha X.lt).symm
theorem nxt_of (H : House h L) (hR : RowOk L R) {Bs : List Nat} (N : NeedOk L R Bs) {b p : Nat} (C : Cl L R b) (hp : p < R.length) (out : b.testBit p = false) (be : ∀ i, Below L R i p → i = p ∨ b.testBit i = true) : ∃ a, (a, p) ∈ nextsB Bs L R b := by
  obtain ⟨e, he, ee⟩ := lt_ok hR hp
  obtain ⟨a, ha, ea⟩ := List.mem_iff_getElem.mp he
  refine ⟨a, next_mem.mpr ⟨ha, ?_, (ok_iff N hp out).mpr be⟩⟩
  rw [List.getD_eq_getElem?_getD, List.getElem?_eq_getElem ha]
  show nxP R b (L[a]).1 = _
  rw [ea, ee]
  exact nx_of H hR C hp out be
theorem spread_inv (H : House h L) (hR : RowOk L R) {i : Nat} {e : En} (C : Cl L R e.2.2) (hc : cdB R.length e.2.2 = i) (hk : e.1 = cnsR L R e.2.2) : ∀ (ap : List (Nat × Nat)) (acc : List En), (∀ x ∈ ap, NxOk L R e.2.2 x.1 x.2) → PInv L R (i + 1) acc →
    PInv L R (i + 1) (ap.foldl (addE e) acc) ∧ ∀ c, (∃ f ∈ ap.foldl (addE e) acc, f.2.2 = c) ↔ (∃ f ∈ acc, f.2.2 = c) ∨ ∃ x ∈ ap, c = e.2.2 ||| 2 ^ x.2
  | [], acc, _, I => ⟨I, fun c => by simp⟩
  | x :: ap, acc, hx, I => by
    have X := hx x List.mem_cons_self
    have C' := cl_add C X.hp X.be
    have hc' := cd_add X.hp X.out
    rw [hc] at hc'
    have ea : addE e acc x = putE acc (cnsR L R (e.2.2 ||| 2 ^ x.2)) e.2.1 (e.2.2 ||| 2 ^ x.2) := by
      unfold addE; rw [hk, X.more H]
    have I' : PInv L R (i + 1) (addE e acc x) := by rw [ea]; exact I.put H hR C' hc'
    obtain ⟨r1, r2⟩ := spread_inv H hR C hc hk ap _ (fun y hy => hx y (List.mem_cons_of_mem _ hy)) I'
    refine ⟨r1, fun c => ?_⟩
    rw [List.foldl_cons, r2 c, ea, put_has H hR I C']
    simp only [List.mem_cons, exists_eq_or_imp]
    exact or_assoc
theorem step_inv (H : House h L) (hR : RowOk L R) {Bs : List Nat} (N : NeedOk L R Bs) {i : Nat} : ∀ (lay acc : List En), (∀ e ∈ lay, Cl L R e.2.2 ∧ cdB R.length e.2.2 = i ∧ e.1 = cnsR L R e.2.2) → PInv L R (i + 1) acc →
    PInv L R (i + 1) (lay.foldl (spreadE Bs L R) acc) ∧ ∀ c, (∃ f ∈ lay.foldl (spreadE Bs L R) acc, f.2.2 = c) ↔ (∃ f ∈ acc, f.2.2 = c) ∨ ∃ e ∈ lay, ∃ x ∈ nextsB Bs L R e.2.2, c = e.2.2 ||| 2 ^ x.2
  | [], acc, _, I => ⟨I, fun c => by simp⟩
  | e :: lay, acc, hl, I => by
    obtain ⟨C, hc, hk⟩ := hl e List.mem_cons_self
    obtain ⟨s1, s2⟩ := spread_inv H hR C hc hk (nextsB Bs L R e.2.2) acc (fun x hx => nxt_ok H hR N C hx) I
    obtain ⟨r1, r2⟩ := step_inv H hR N lay (spreadE Bs L R acc e) (fun y hy => hl y (List.mem_cons_of_mem _ hy)) s1
    refine ⟨r1, fun c => ?_⟩
    have s3 : (∃ f ∈ spreadE Bs L R acc e, f.2.2 = c) ↔ _ := s2 c
    rw [List.foldl_cons, r2 c, s3]
    simp only [List.mem_cons, exists_eq_or_imp]
    exact or_assoc
theorem cns_zero : cnsR L R 0 = L.map fun _ => 0 := by
  unfold cnsR
  refine List.map_congr_left fun e _ => ?_
  unfold cnR
  rw [List.length_eq_zero_iff, List.filter_eq_nil_iff]
  intro x _; rw [Nat.zero_testBit]; simp
theorem cd_zero {n : Nat} : cdB n 0 = 0 := by
  unfold cdB
  rw [List.length_eq_zero_iff, List.filter_eq_nil_iff]
  intro x _; rw [Nat.zero_testBit]; simp
theorem cd_none {n b : Nat} (hb : b < 2 ^ n) (h : cdB n b = 0) : b = 0 := by
  apply Nat.eq_of_testBit_eq
  intro i
  rw [Nat.zero_testBit]
  unfold cdB at h
  rw [List.length_eq_zero_iff, List.filter_eq_nil_iff] at h
  by_cases hi : i < n
  · have := h i (List.mem_range.mpr hi)
    simpa using this
  · exact Nat.testBit_lt_two_pow (Nat.lt_of_lt_of_le hb (Nat.pow_le_pow_right (by omega) (by omega)))
/-- just the pasts of i deeds -/
theorem lay_inv (H : House h L) (hR : RowOk L R) {Bs : List Nat} (N : NeedOk L R Bs) : ∀ i, PInv L R i (layE Bs L R i) ∧ ∀ c, (∃ f ∈ layE Bs L R i, f.2.2 = c) ↔ Cl L R c ∧ cdB R.length c = i
  | 0 => by
    refine ⟨⟨by simp [layE], fun e he => ?_⟩, fun c => ?_⟩
    · rw [layE, List.mem_singleton] at he
      subst he
      exact ⟨cl_zero, cd_zero, cns_zero.symm⟩
    · rw [layE]
      constructor
      · rintro ⟨f, hf, rfl⟩
        rw [List.mem_singleton] at hf; subst hf
        exact ⟨cl_zero, cd_zero⟩
      · rintro ⟨hC, h0⟩
        exact ⟨_, List.mem_singleton.mpr rfl, (cd_none hC.1 h0).symm⟩
  | i + 1 => by
    obtain ⟨I, hI⟩ := lay_inv H hR N i
    obtain ⟨r1, r2⟩ := step_inv H hR N (layE Bs L R i) [] I.en PInv.nil
    refine ⟨r1, fun c => ?_⟩
    show (∃ f ∈ (layE Bs L R i).foldl (spreadE Bs L R) [], f.2.2 = c) ↔ _
    rw [r2 c]
    constructor
    · rintro (⟨f, hf, _⟩ | ⟨e, he, x, hx, rfl⟩)
      · cases hf
      · obtain ⟨C, hc, hk⟩ := I.en e he
        have X := nxt_ok H hR N C hx
        refine ⟨cl_add C X.hp X.be, ?_⟩
        rw [cd_add X.hp X.out, hc]
    · rintro ⟨C, hc⟩
      obtain ⟨j, c', C', hc', out, hj, rfl, be⟩ := C.top hc
      obtain ⟨e, he, rfl⟩ := (hI c').mpr ⟨C', hc'⟩
      obtain ⟨a, hm⟩ := nxt_of H hR N C' hj out be
      exact .inr ⟨e, he, _, hm, rfl⟩
def kD (x : List Nat) : D := .tup (x.map natD)
@[simp] theorem frz_kD {x : List Nat} : frz (kD x) = kD x := by unfold kD; rw [frz_tup, frzs_mapf (g := natD) fun _ _ => rfl]
@[simp] theorem imm_kD {x : List Nat} : isImm (kD x) = true := by unfold kD; rw [imm_tup]; exact imms_map fun _ _ => rfl
def kK (x : List Nat) : List Key := x.map fun i : Nat => (Sum.inl (i : Int) : Key)
theorem kK_inj : ∀ {x y : List Nat}, kK x = kK y ↔ x = y
  | [], [] => by simp [kK]
  | [], _ :: _ => by simp [kK]
  | _ :: _, [] => by simp [kK]
  | a :: x, b :: y => by
    have ih := kK_inj (x := x) (y := y)
    unfold kK at ih ⊢
    rw [List.map_cons, List.map_cons, List.cons.injEq, List.cons.injEq, ih]
    constructor
    · rintro ⟨h1, h2⟩
      have := Sum.inl.inj h1
      exact ⟨by omega, h2⟩
    · rintro ⟨h1, h2⟩; exact ⟨by rw [h1], h2⟩
theorem keysOf_kK : ∀ x : List Nat, keysOf (x.map natD) = some (kK x)
  | [] => rfl
  | a :: x => by
    rw [List.map_cons]; unfold keysOf
    rw [keysOf_kK x]; rfl
theorem kD_at {x : List Nat} {i : Nat} (hi : i < x.length) : gIx (kD x) (.int (i : Int)) = some (natD (x.getD i 0)) := by
  unfold kD
  rw [ix_t, at_nat, List.getElem?_map, List.getElem?_eq_getElem hi, List.getD_eq_getElem?_getD, List.getElem?_eq_getElem hi]; rfl
theorem keysT_kD {x : List Nat} : keysT (kD x) = some (kK x) := keysOf_kK x
theorem enum_map {α : Type} {f : α → D} (d0 : α) : ∀ (xs : List α) (i : Nat), enumD i (xs.map f) = (List.range xs.length).map fun k => .tup [.int ((i + k : Nat) : Int), f (xs.getD k d0)]
  | [], _ => rfl
  | x :: xs, i => by
    rw [List.map_cons, enumD, enum_map d0 xs (i + 1), List.length_cons, List.range_succ_eq_map, List.map_cons, List.map_map]
    congr 1
    refine List.map_congr_left fun k _ => ?_
    show D.tup [.int ((i + 1 + k : Nat) : Int), _] = .tup [.int ((i + (k + 1) : Nat) : Int), _]
    rw [Nat.add_assoc, Nat.add_comm 1 k]; rfl
theorem own_items {o : Bool} {xs : List Nat} : itemsL (ownD o xs) = some (xs.map natD) := by
  unfold ownD
  rw [items_l, frzs_mapf (f := natD) (g := natD) fun _ _ => rfl]
theorem own_ix {o : Bool} {xs : List Nat} {i : Nat} (hi : i < xs.length) : gIx (ownD o xs) (.int (i : Int)) = some (natD (xs.getD i 0)) := by
  unfold ownD
  rw [ix_l, at_nat, List.getElem?_map, List.getElem?_eq_getElem hi, List.getD_eq_getElem?_getD, List.getElem?_eq_getElem hi]; rfl
def hpR (L : List (Nat × List Nat)) (R : List Nat) (x : Nat) : List Nat := (List.range R.length).filter fun j => decide (x ∈ ow L (lt R j))
def hcR (L : List (Nat × List Nat)) (R : List Nat) (b x : Nat) : Nat := ((hpR L R x).filter b.testBit).length
theorem hc_le {b x : Nat} : hcR L R b x ≤ R.length := by
  unfold hcR hpR
  exact Nat.le_trans (List.length_filter_le _ _) (Nat.le_trans (List.length_filter_le _ _) (by rw [List.length_range]; exact Nat.le_refl _))
theorem hc_take (H : House h L) (hR : RowOk L R) {b x : Nat} (C : Cl L R b) : (hpR L R x).filter b.testBit = (hpR L R x).take (hcR L R b x) := by
  unfold hcR
  refine filter_take ?_
  have rise : (hpR L R x).Pairwise (· < ·) := List.Pairwise.filter _ List.pairwise_lt_range
  refine List.Pairwise.imp_of_mem ?_ rise
  intro y z hy hz hlt hb
  unfold hpR at hy hz
  rw [List.mem_filter, List.mem_range, decide_eq_true_eq] at hy hz
  exact C.2 y z hb (.tail (.refl y) hlt ⟨x, hy.2, hz.2⟩)
theorem hc_inj (H : House h L) (hR : RowOk L R) {b c : Nat} (B : Cl L R b) (C : Cl L R c) (e : ∀ x, x < h → hcR L R b x = hcR L R c x) : b = c := by
  apply Nat.eq_of_testBit_eq
  intro i
  by_cases hi : i < R.length
  · obtain ⟨f, hf, ef⟩ := lt_ok hR hi
    have wo := H.own f hf
    obtain ⟨x, hx⟩ : ∃ x, x ∈ f.2 := by
      cases h2 : f.2 with
      | nil => exact (wo.ne h2).elim
      | cons x xs => exact ⟨x, List.mem_cons_self⟩
    have hxo : x ∈ ow L (lt R i) := by rw [← ef, ow_mem H.rise hf]; exact hx
    have e1 := hc_take H hR B (x := x)
    rw [e x (wo.lt x hx), ← hc_take H hR C] at e1
    have hm : i ∈ hpR L R x := by unfold hpR; rw [List.mem_filter, List.mem_range, decide_eq_true_eq]; exact ⟨hi, hxo⟩
    have : i ∈ (hpR L R x).filter b.testBit ↔ i ∈ (hpR L R x).filter c.testBit := by rw [e1]
    rw [List.mem_filter, List.mem_filter] at this
    simp only [hm, true_and] at this
    rw [Bool.eq_iff_iff]; exact this
  · rw [Bool.eq_iff_iff]
    exact ⟨fun z => (hi (B.lt z)).elim, fun z => (hi (C.lt z)).elim⟩
def four : List (Nat × Nat × Nat × Nat) := (List.range 33).flatMap fun a => (List.range 33).flatMap fun b => (List.range 33).flatMap fun c => (List.range 33).map fun d => (a, b, c, d)
theorem len_flat {α β : Type} {f : α → List β} {n : Nat} : ∀ {l : List α}, (∀ x ∈ l, (f x).length = n) → (l.flatMap f).length = l.length * n
  | [], _ => by simp
  | x :: l, hx => by
    rw [List.flatMap_cons, List.length_append, len_flat fun y hy => hx y (List.mem_cons_of_mem _ hy), hx x List.mem_cons_self, List.length_cons, Nat.succ_mul, Nat.add_comm]
theorem four_len : four.length = 1185921 := by
  unfold four
  rw [len_flat (n := 33 * (33 * 33)) fun a _ => by
    rw [len_flat (n := 33 * 33) fun b _ => by
      rw [len_flat (n := 33) fun c _ => by rw [List.length_map, List.length_range], List.length_range], List.length_range], List.length_range]
theorem PInv.len (H : House h L) (hR : RowOk L R) (h32 : R.length ≤ 32) {i : Nat} {acc : List En} (I : PInv L R i acc) : acc.length ≤ 1185921 := by
  have h4 := H.h4
  have nd : (acc.map fun e => (hcR L R e.2.2 0, hcR L R e.2.2 1, hcR L R e.2.2 2, hcR L R e.2.2 3)).Nodup := by
    have nd := I.inj H hR
    rw [List.nodup_iff_pairwise_ne, List.pairwise_map] at nd ⊢
    refine List.Pairwise.imp_of_mem (fun {x y} hx hy hne z => hne ?_) nd
    simp only [Prod.mk.injEq] at z
    refine hc_inj H hR (I.en x hx).1 (I.en y hy).1 fun k hk => ?_
    have : k = 0 ∨ k = 1 ∨ k = 2 ∨ k = 3 := by omega
    rcases this with rfl | rfl | rfl | rfl
    · exact z.1
    · exact z.2.1
    · exact z.2.2.1
    · exact z.2.2.2
  have := nodup_sub_len nd (ys := four) fun k hk => by
    obtain ⟨e, he, rfl⟩ := List.mem_map.mp hk
    have b : ∀ x, hcR L R e.2.2 x < 33 := fun x => by have := hc_le (L := L) (R := R) (b := e.2.2) (x := x); omega
    unfold four
    refine List.mem_flatMap.mpr ⟨_, List.mem_range.mpr (b 0), List.mem_flatMap.mpr ⟨_, List.mem_range.mpr (b 1), List.mem_flatMap.mpr ⟨_, List.mem_range.mpr (b 2), List.mem_map.mpr ⟨_, List.mem_range.mpr (b 3), rfl⟩⟩⟩⟩
  rw [List.length_map, four_len] at this
  exact this
theorem PInv.size (H : House h L) (hR : RowOk L R) (h32 : R.length ≤ 32) {i : Nat} {acc : List En} (I : PInv L R i acc) : acc.length < sizeLine := by
  have := I.len H hR h32
  unfold sizeLine; omega
/-- a list for the law, a tuple for the program -/
def vP (w : Bool) (e : Nat × Nat) : D := if w = true then .lst false [natD e.1, natD e.2] else .tup [natD e.1, natD e.2]
def laD (w o : Bool) (lay : List En) : D := .dcT o (lay.map fun e => kK e.1) (lay.map fun e => vP w e.2)
@[simp] theorem frz_vP {w : Bool} {e : Nat × Nat} : frz (vP w e) = vP w e := by cases w <;> rfl
@[simp] theorem imm_vP {w : Bool} {e : Nat × Nat} : isImm (vP w e) = true := by cases w <;> rfl
theorem frz_la {w o : Bool} {lay : List En} : frz (laD w o lay) = laD w false lay := by
  unfold laD
  show D.dcT false _ (frzs _) = _
  rw [frzs_mapf (f := fun e : En => vP w e.2) (g := fun e : En => vP w e.2) fun _ _ => frz_vP]
def lkE (acc : List En) (k : List Nat) : Option (Nat × Nat) := (acc.find? fun e => decide (e.1 = k)).map (·.2)
theorem la_getK {w : Bool} : ∀ {acc : List En} {k : List Nat}, getK (acc.map fun e => kK e.1) (acc.map fun e => vP w e.2) (kK k) = (lkE acc k).map (vP w)
  | [], k => rfl
  | e :: acc, k => by
    rw [List.map_cons, List.map_cons]
    unfold getK lkE
    rw [List.find?_cons]
    by_cases c : e.1 = k
    · rw [if_pos (kK_inj.mpr c), decide_eq_true c]; rfl
    · rw [if_neg fun z => c (kK_inj.mp z), decide_eq_false c, la_getK]; rfl
theorem lk_mem {acc : List En} (nd : (acc.map (·.1)).Nodup) : ∀ {e : En}, e ∈ acc → lkE acc e.1 = some e.2 := by
  intro e he
  unfold lkE
  induction acc with
  | nil => cases he
  | cons a acc ih =>
    rw [List.map_cons, List.nodup_cons] at nd
    rw [List.find?_cons]
    rcases List.mem_cons.mp he with rfl | he
    · simp
    · have : ¬ a.1 = e.1 := fun z => nd.1 (z ▸ List.mem_map.mpr ⟨e, he, rfl⟩)
      rw [decide_eq_false this]
      exact ih nd.2 he
theorem la_ix {w o : Bool} {acc : List En} (nd : (acc.map (·.1)).Nodup) {e : En} (he : e ∈ acc) : gIx (laD w o acc) (kD e.1) = some (vP w e.2) := by
  show (keysOf (e.1.map natD)).bind (fun c => getK (acc.map fun e => kK e.1) (acc.map fun e => vP w e.2) c) = _
  rw [keysOf_kK, Option.bind_some, la_getK, lk_mem nd he]; rfl
theorem la_imms {w : Bool} {acc : List En} : isImms (acc.map fun e => vP w e.2) = true := imms_map fun _ _ => imm_vP
theorem la_get2 {w o : Bool} {acc : List En} {k : List Nat} {x : D} : getD2 (laD w o acc) (kD k) x = some (((lkE acc k).map (vP w)).getD (frz x)) := by
  have e1 : getD2 (laD w o acc) (kD k) x = (keysT (kD k)).bind fun c => if isImms (acc.map fun e => vP w e.2) = true then some ((getK (acc.map fun e => kK e.1) (acc.map fun e => vP w e.2) c).getD (frz x)) else none := rfl
  rw [e1, keysT_kD, Option.bind_some, if_pos la_imms, la_getK]
theorem la_len {w o : Bool} {acc : List En} : gLenT [laD w o acc] = some (.int (acc.length : Int)) := by
  show some (D.int _) = _
  rw [List.length_map]
theorem lk_none {acc : List En} {k : List Nat} : lkE acc k = none ↔ k ∉ acc.map (·.1) := by
  unfold lkE
  rw [Option.map_eq_none_iff, List.find?_eq_none, List.mem_map]
  constructor
  · rintro z ⟨e, he, rfl⟩; exact z e he (by simp)
  · intro z e he w; exact z ⟨e, he, by simpa using w⟩
theorem la_repl {w : Bool} {k : List Nat} {m m0 b0 b : Nat} : ∀ {acc : List En}, (acc.map (·.1)).Nodup → lkE acc k = some (m0, b0) → replK (acc.map fun e => kK e.1) (acc.map fun e => vP w e.2) (kK k) (vP w (m0 + m, b)) = (acc.map fun e => if e.1 = k then (k, e.2.1 + m, b) else e).map fun e => vP w e.2
  | [], _, h => by cases h
  | e :: acc, nd, h => by
    rw [List.map_cons, List.nodup_cons] at nd
    rw [List.map_cons, List.map_cons, List.map_cons, List.map_cons]
    unfold replK
    unfold lkE at h
    rw [List.find?_cons] at h
    by_cases c : e.1 = k
    · rw [decide_eq_true c] at h
      have h : some e.2 = some (m0, b0) := h
      have h := Option.some.inj h
      rw [if_pos (kK_inj.mpr c), if_pos c, h]
      congr 1
      have nk : k ∉ acc.map (·.1) := c ▸ nd.1
      have r1 : ∀ (acc : List En), k ∉ acc.map (·.1) → replK (acc.map fun e => kK e.1) (acc.map fun e => vP w e.2) (kK k) (vP w (m0 + m, b)) = (acc.map fun e => if e.1 = k then (k, e.2.1 + m, b) else e).map fun e => vP w e.2 := by
        intro acc
        induction acc with
        | nil => intro _; rfl
        | cons f acc ih =>
          intro hk
          rw [List.map_cons, List.mem_cons, not_or] at hk
          rw [List.map_cons, List.map_cons, List.map_cons, List.map_cons]
          unfold replK
          rw [if_neg fun z => hk.1 (kK_inj.mp z).symm, if_neg fun z => hk.1 z.symm, ih hk.2]
      exact r1 acc nk
    · rw [decide_eq_false c] at h
      rw [if_neg fun z => c (kK_inj.mp z), if_neg c, la_repl nd.2 h]
theorem la_put {w : Bool} {acc : List En} {k : List Nat} {m b : Nat} (nd : (acc.map (·.1)).Nodup) (hl : acc.length < sizeLine) : putD (laD w true acc) (kD k) (vP w (((lkE acc k).map (·.1)).getD 0 + m, b)) = some (laD w true (putE acc k m b)) := by
  have e1 : ∀ d : D, putD (laD w true acc) (kD k) d = match keysT (kD k) with
    | some c => if (acc.map fun e => vP w e.2).length < sizeLine then some (.dcT true (putKs (acc.map fun e => kK e.1) (acc.map fun e => vP w e.2) c d).1 (putKs (acc.map fun e => kK e.1) (acc.map fun e => vP w e.2) c d).2) else none
    | none => none := fun d => rfl
  rw [e1, keysT_kD]
  dsimp only
  rw [if_pos (by rw [List.length_map]; exact hl)]
  have mm : kK k ∈ (acc.map fun e => kK e.1) ↔ k ∈ acc.map (·.1) := by
    rw [List.mem_map, List.mem_map]
    exact ⟨fun ⟨y, hy, e⟩ => ⟨y, hy, kK_inj.mp e⟩, fun ⟨y, hy, e⟩ => ⟨y, hy, kK_inj.mpr e⟩⟩
  unfold putKs putE
  by_cases c : k ∈ acc.map (·.1)
  · rw [if_pos (mm.mpr c), if_pos c]
    obtain ⟨⟨m0, b0⟩, h0⟩ : ∃ x, lkE acc k = some x := by
      cases e : lkE acc k with
      | none => exact (lk_none.mp e c).elim
      | some x => exact ⟨x, rfl⟩
    rw [h0]
    show some (D.dcT true _ (replK _ _ _ (vP w (m0 + m, b)))) = _
    rw [la_repl nd h0]
    unfold laD
    congr 2
    rw [List.map_map]
    refine List.map_congr_left fun e _ => ?_
    show kK e.1 = kK (if e.1 = k then (k, e.2.1 + m, b) else e).1
    by_cases z : e.1 = k
    · rw [if_pos z]; exact kK_inj.mpr z
    · rw [if_neg z]
  · rw [if_neg fun z => c (mm.mp z), if_neg c, lk_none.mpr c]
    show some (D.dcT true _ (_ ++ [vP w (0 + m, b)])) = _
    rw [Nat.zero_add]
    unfold laD
    rw [List.map_append, List.map_append]; rfl
def plL (L : List (Nat × List Nat)) (R : List Nat) : List (List Nat) := L.map fun e => plR R e.1
def plD (o : Bool) (L : List (Nat × List Nat)) (R : List Nat) : D := .lst o ((plL L R).map (ownD o))
theorem frz_pl {o : Bool} : frz (plD o L R) = plD false L R := by
  unfold plD
  rw [frz_lst, frzs_mapf (f := ownD o) (g := ownD false) fun _ _ => frz_own]
theorem pl_getD {a : Nat} (ha : a < L.length) : (plL L R).getD a [] = plR R (L.getD a (0, [])).1 := by
  unfold plL
  rw [List.getD_eq_getElem?_getD, List.getElem?_map, List.getElem?_eq_getElem ha, List.getD_eq_getElem?_getD, List.getElem?_eq_getElem ha]; rfl
theorem cns_getD {b a : Nat} (ha : a < L.length) : (cnsR L R b).getD a 0 = cnR R b (L.getD a (0, [])).1 := by
  unfold cnsR
  rw [List.getD_eq_getElem?_getD, List.getElem?_map, List.getElem?_eq_getElem ha, List.getD_eq_getElem?_getD, List.getElem?_eq_getElem ha]; rfl
theorem cns_len {b : Nat} : (cnsR L R b).length = L.length := by unfold cnsR; rw [List.length_map]
/-- the conditions, as the code asks them -/
theorem band_need {a b : Nat} : Builtin.bitAnd (a : Int) (Builtin.bitNot (b : Int)) = ((a - (a &&& b) : Nat) : Int) := by
  rw [band_inv]
  have : a &&& b ≤ a := and_le'
  omega
theorem shl_1 {p : Nat} (hp : p < 100) : gShl (.int 1) (.int (p : Int)) = some (.int ((2 ^ p : Nat) : Int)) := by
  rw [shl_ii, if_pos (cpow_small 1 p (by omega) (by decide)), Int.toNat_natCast, Int.one_mul]
  congr 2
theorem ok_eq {Bs : List Nat} {b p : Nat} : gEq (.int ((Bs.getD p 0 - (Bs.getD p 0 &&& b) : Nat) : Int)) (.int ((2 ^ p : Nat) : Int)) = some (.bl (okB Bs b p)) := by
  rw [eq_ii]
  congr 2
  unfold okB
  rw [decide_eq_decide]
  omega
theorem eq_sgD {a b : Nat} : gEq (sgD a) (sgD b) = some (.bl (decide (a = b))) := by unfold sgD; rw [eq_ss]; congr 2; exact decide_eq_decide.mpr sg_inj
theorem places_spec (H : House h L) (hl : R.length ≤ 1000) : m_places_by_letter [houD false h L, .str (rowS R)] = .rt (plD true L R) [none, none] := by
  have l6 := H.l6
  have hix : gIx (houD false h L) (.int 1) = some (.lst false (L.map (entD false))) := hou_ix1
  have s1 : R.length ≤ sizeLine := Nat.le_trans hl (by decide)
  have s2 : L.length ≤ sizeLine := Nat.le_trans l6 (by decide)
  have fe : frzs (L.map (entD false)) = L.map (entD false) := frzs_mapf fun _ _ => by unfold entD; simp [frz_own]
  have ie : isImms (L.map (entD false)) = true := imms_map fun _ _ => imm_ent
  have fl : (frz (D.lst false (L.map (entD false)))) = .lst false (L.map (entD false)) := by rw [frz_lst, fe]
  have it : itemsL (D.lst false (L.map (entD false))) = some (L.map (entD false)) := by rw [items_l, fe]
  have en : enumD 0 (R.map sgD) = (List.range R.length).map fun k => .tup [.int (k : Int), sgD (lt R k)] := by
    have := enum_map (f := sgD) 0 R 0
    rw [this]
    refine List.map_congr_left fun k hk => ?_
    rw [Nat.zero_add]
    unfold lt
    rw [List.getD_eq_getElem?_getD]
  have inner : ∀ (e : Nat × List Nat), fLc (fItN enumS (fCons (fVar 1) fNil)) (gT 2 (gsC (gN 4) (gsC (gN 5) gsN))) (fTv (vOp2 gEq (vVar 5) (vVar 2))) (fVar 4) [4, 5] [some (houD false h L), some (.str (rowS R)), some (sgD e.1), some (ownD false e.2), none, none]
      = .ok (ownD true (plR R e.1)) [some (houD false h L), some (.str (rowS R)), some (sgD e.1), some (ownD false e.2), none, none] := fun e => by
    unfold ownD plR
    refine lc_map (xs := List.range R.length) (g := fun k : Nat => .tup [.int (k : Int), sgD (lt R k)]) (e := natD) (p := fun j : Nat => decide (lt R j = e.1)) ?_ (by simp) (by rw [List.length_range]; exact s1) fun k _ => ?_
    · simp [enumS, strD_row, en]
    · have q : gEq (sgD (lt R k)) (sgD e.1) = some (.bl (decide (lt R k = e.1))) := eq_sgD
      generalize houD false h L = HH at *
      refine ⟨[some HH, some (.str (rowS R)), some (sgD e.1), some (.lst false (e.2.map natD)), some (.int (k : Int)), some (sgD (lt R k))], by simp, [some HH, some (.str (rowS R)), some (sgD e.1), some (.lst false (e.2.map natD)), some (.int (k : Int)), some (sgD (lt R k))], by simp [q], fun _ => ⟨[some HH, some (.str (rowS R)), some (sgD e.1), some (.lst false (e.2.map natD)), some (.int (k : Int)), some (sgD (lt R k))], by simp [natD], by simp⟩, fun _ => by simp⟩
  have outer : fLc (fIt itemsL (fI (vOp2 gIx (vVar 0) (vK (.int 1))))) (gT 2 (gsC (gN 2) (gsC (gN 3) gsN))) fYes (fLc (fItN enumS (fCons (fVar 1) fNil)) (gT 2 (gsC (gN 4) (gsC (gN 5) gsN))) (fTv (vOp2 gEq (vVar 5) (vVar 2))) (fVar 4) [4, 5]) [2, 3] [some (houD false h L), some (.str (rowS R)), none, none, none, none]
      = .ok (plD true L R) [some (houD false h L), some (.str (rowS R)), none, none, none, none] := by
    unfold plD plL
    rw [List.map_map]
    refine lc_all (xs := L) (g := entD false) ?_ (by simp) s2 fun e _ => ?_
    · generalize L.map (entD false) = LE at *
      generalize houD false h L = HH at *
      simp [-ix_t, hix, ie, fe, fl, it]
    · refine ⟨[some (houD false h L), some (.str (rowS R)), some (sgD e.1), some (ownD false e.2), none, none], ?_, _, inner e, ?_⟩
      · simp [entD]; rfl
      · simp
  unfold m_places_by_letter; rw [semOf_ap]; unfold b_places_by_letter
  have : ([houD false h L, D.str (rowS R)].map some ++ List.replicate (6 - [houD false h L, D.str (rowS R)].length) none) = [some (houD false h L), some (.str (rowS R)), none, none, none, none] := rfl
  rw [this, ap_ret, outer]
  rfl
theorem more_spec {c : List Nat} {a : Nat} (ha : a < c.length) (hc : c.length ≤ 100) : m_more_of [kD c, .int (a : Int)] = .rt (kD (moreE c a)) [none, none] := by
  have ix := kD_at ha
  have sz : ∀ n : Nat, n ≤ 300 → n ≤ sizeLine := fun n hn => Nat.le_trans hn (by decide)
  have s1 : gSl (kD c) none (some (a : Int)) = some (kD (c.take a)) := by
    unfold kD gSl
    dsimp only
    rw [HT.sIx_none, HT.sIx_nat, List.length_map, Nat.min_eq_left (by omega), if_pos ⟨imms_nats, by omega⟩]
    unfold Hap.cutD
    rw [HT.sIx_none, HT.sIx_nat, List.length_map, Nat.min_eq_left (by omega), List.drop_zero, Nat.sub_zero, List.map_take]
  have s2 : gSl (kD c) (some ((a + 1 : Nat) : Int)) none = some (kD (c.drop (a + 1))) := by
    unfold kD gSl
    dsimp only
    rw [HT.sIx_none, HT.sIx_nat, List.length_map, Nat.min_eq_left (by omega), if_pos ⟨imms_nats, by omega⟩]
    unfold Hap.cutD
    rw [HT.sIx_none, HT.sIx_nat, List.length_map, Nat.min_eq_left (by omega), List.take_of_length_le (by rw [List.length_drop, List.length_map]; exact Nat.le_refl _), List.map_drop]
  have a1 : gAddT (kD (c.take a)) (.tup [natD (c.getD a 0 + 1)]) = some (kD (c.take a ++ [c.getD a 0 + 1])) := by
    unfold kD
    rw [add_tt, if_pos ⟨⟨imms_nats, rfl⟩, sz _ (by simp; omega)⟩, List.map_append]; rfl
  have a2 : gAddT (kD (c.take a ++ [c.getD a 0 + 1])) (kD (c.drop (a + 1))) = some (kD (moreE c a)) := by
    unfold kD
    rw [add_tt, if_pos ⟨⟨imms_nats, imms_nats⟩, sz _ (by simp; omega)⟩, ← List.map_append]
    congr 3
    unfold moreE
    rw [List.set_eq_take_append_cons_drop, if_pos ha]; simp
  have e1 : natD (c.getD a 0 + 1) = .int ((c.getD a 0 : Int) + 1) := by unfold natD; rw [Int.natCast_add]; rfl
  have e2 : ((a + 1 : Nat) : Int) = (a : Int) + 1 := Int.natCast_add a 1
  rw [e1] at a1
  rw [e2] at s2
  unfold natD at ix
  have i1 := @imm_kD (c.take a)
  have i2 := @imm_kD (c.drop (a + 1))
  have i3 := @imm_kD (c.take a ++ [c.getD a 0 + 1])
  have f0 := @frz_kD c
  unfold m_more_of; rw [semOf_ap]; unfold b_more_of
  generalize kD (c.take a ++ [c.getD a 0 + 1]) = K1 at *
  generalize kD (c.take a) = K2 at *
  generalize kD (c.drop (a + 1)) = K3 at *
  generalize kD (moreE c a) = K4 at *
  generalize kD c = K0 at *
  generalize c.getD a 0 = cv at *
  have h1s := sz 1 (by omega)
  simp [h1s, ix, s1, s2, a1, a2, i1, i2, i3, f0]
def prD (p : Nat × Nat) : D := .tup [natD p.1, natD p.2]
theorem pl_items {o : Bool} : itemsL (plD o L R) = some ((plL L R).map (ownD false)) := by
  unfold plD
  rw [items_l, frzs_mapf (f := ownD o) (g := ownD false) fun _ _ => frz_own]
theorem pl_enum {o : Bool} : enumL [plD o L R] = some ((List.range L.length).map fun a => .tup [.int (a : Int), ownD false (plR R (L.getD a (0, [])).1)]) := by
  have e1 : enumL [plD o L R] = (itemsL (plD o L R)).map (enumD 0) := rfl
  rw [e1, pl_items, Option.map_some, enum_map []]
  congr 1
  have : (plL L R).length = L.length := by unfold plL; rw [List.length_map]
  rw [this]
  refine List.map_congr_left fun a ha => ?_
  rw [Nat.zero_add, pl_getD (List.mem_range.mp ha)]
theorem nxA_none {Bs : List Nat} {b a : Nat} (e : nxP R b (L.getD a (0, [])).1 = none) : nxtA Bs L R b a = none := by unfold nxtA; rw [e]
theorem nxA_yes {Bs : List Nat} {b a p : Nat} (e : nxP R b (L.getD a (0, [])).1 = some p) (o : okB Bs b p = true) : nxtA Bs L R b a = some (a, p) := by unfold nxtA; rw [e]; exact if_pos o
theorem nxA_no {Bs : List Nat} {b a p : Nat} (e : nxP R b (L.getD a (0, [])).1 = some p) (o : okB Bs b p = false) : nxtA Bs L R b a = none := by unfold nxtA; rw [e]; exact if_neg (by rw [o]; simp)
theorem next_turn {Bs : List Nat} (N : NeedOk L R Bs) (h6 : L.length ≤ 6) (h32 : R.length ≤ 32) (H : House h L) (hR : RowOk L R) {b a : Nat} (C : Cl L R b) (ha : a < L.length) {fs : List (Nat × Nat)} (hf : fs.length ≤ a) {v5 v6 v7 : Option D} :
    ∃ v5' v6' v7', stepS (gT 2 (gsC (gN 5) (gsC (gN 6) gsN))) l_next_places_1 (.tup [.int (a : Int), ownD false (plR R (L.getD a (0, [])).1)]) [some (kD (cnsR L R b)), some (.int (b : Int)), some (plD false L R), some (ownD false Bs), some (.lst true (fs.map prD)), v5, v6, v7]
      = .nx [some (kD (cnsR L R b)), some (.int (b : Int)), some (plD false L R), some (ownD false Bs), some (.lst true ((fs ++ (nxtA Bs L R b a).toList).map prD)), v5', v6', v7'] := by
  have i0 : gIx (kD (cnsR L R b)) (.int (a : Int)) = some (.int ((cnR R b (L.getD a (0, [])).1 : Nat) : Int)) := by
    rw [kD_at (by rw [cns_len]; exact ha), cns_getD ha]; rfl
  obtain ⟨l, hl⟩ : ∃ l, l = (L.getD a (0, [])).1 := ⟨_, rfl⟩
  have x0 := fun e => nxA_none (L := L) (R := R) (Bs := Bs) (b := b) (a := a) e
  have x1 := fun p e o => nxA_yes (L := L) (R := R) (Bs := Bs) (b := b) (a := a) (p := p) e o
  have x2 := fun p e o => nxA_no (L := L) (R := R) (Bs := Bs) (b := b) (a := a) (p := p) e o
  rw [← hl] at x0 x1 x2
  rw [← hl] at i0 ⊢
  have lm : gLen [ownD false (plR R l)] = some (.int ((plR R l).length : Int)) := by unfold ownD; rw [len_l, List.length_map]
  have gs : fs.length < sizeLine := Nat.lt_of_le_of_lt hf (Nat.lt_of_le_of_lt (Nat.le_of_lt ha) (Nat.lt_of_le_of_lt h6 (by decide)))
  have gs' : (fs.map prD).length < sizeLine := by rw [List.length_map]; exact gs
  cases hn : nxP R b l with
  | none =>
    have c : ¬ ((cnR R b l : Nat) : Int) < ((plR R l).length : Int) := by
      unfold nxP at hn
      rw [List.getElem?_eq_none_iff] at hn
      omega
    rw [x0 hn]
    refine ⟨some (.int (a : Int)), some (ownD false (plR R l)), v7, ?_⟩
    have e0 : fs ++ (none : Option (Nat × Nat)).toList = fs := by simp
    rw [e0]
    rw [ap_step]; unfold l_next_places_1
    have fo : frz (ownD false (plR R l)) = ownD false (plR R l) := frz_own
    generalize ownD false (plR R l) = PL at *
    generalize kD (cnsR L R b) = KC at *
    generalize ownD false Bs = BB at *
    generalize plD false L R = PD at *
    generalize fs.map prD = FS at *
    simp [i0, lm, c, fo]
  | some p =>
    obtain ⟨p1, p2, p3⟩ := nx_props H hR C hn
    have hc : cnR R b l < (plR R l).length := by
      unfold nxP at hn
      exact (List.getElem?_eq_some_iff.mp hn).1
    have c : ((cnR R b l : Nat) : Int) < ((plR R l).length : Int) := by omega
    have ip : gIx (ownD false (plR R l)) (.int ((cnR R b l : Nat) : Int)) = some (.int (p : Int)) := by
      have : (plR R l).getD (cnR R b l) 0 = p := by
        unfold nxP at hn
        rw [List.getD_eq_getElem?_getD, hn]; rfl
      rw [own_ix hc, this]; rfl
    have ib : gIx (ownD false Bs) (.int (p : Int)) = some (.int (Bs.getD p 0 : Int)) := by rw [own_ix (by rw [N.len]; exact p1)]; rfl
    have q1 : gInv (.int (b : Int)) = some (.int (Builtin.bitNot (b : Int))) := inv_i
    have q2 : gBand (.int (Bs.getD p 0 : Int)) (.int (Builtin.bitNot (b : Int))) = some (.int ((Bs.getD p 0 - (Bs.getD p 0 &&& b) : Nat) : Int)) := by rw [band_ii, band_need]
    have q3 := shl_1 (p := p) (by omega)
    have q4 := ok_eq (Bs := Bs) (b := b) (p := p)
    refine ⟨some (.int (a : Int)), some (ownD false (plR R l)), some (.int (p : Int)), ?_⟩
    rw [ap_step]; unfold l_next_places_1
    have fo : frz (ownD false (plR R l)) = ownD false (plR R l) := frz_own
    have i2 : (2 : Nat) ≤ sizeLine := by decide
    have em : (fs ++ [(a, p)]).map prD = fs.map prD ++ [.tup [.int (a : Int), .int (p : Int)]] := by rw [List.map_append]; rfl
    generalize ownD false (plR R l) = PL at *
    generalize kD (cnsR L R b) = KC at *
    generalize ownD false Bs = BB at *
    generalize plD false L R = PD at *
    generalize ((Bs.getD p 0 - (Bs.getD p 0 &&& b) : Nat) : Int) = Z1 at *
    generalize ((2 ^ p : Nat) : Int) = Z2 at *
    generalize (Bs.getD p 0 : Int) = Z3 at *
    cases ho : okB Bs b p with
    | true =>
      rw [ho] at q4
      have em' : (fs ++ (some (a, p)).toList).map prD = fs.map prD ++ [.tup [.int (a : Int), .int (p : Int)]] := em
      rw [x1 p hn ho, em']
      generalize fs.map prD = FS at *
      simp [-band_ii, -shl_ii, -eq_ii, i0, lm, c, fo, ip, ib, q1, q2, q3, q4, i2, gs']
    | false =>
      rw [ho] at q4
      have em' : (fs ++ (none : Option (Nat × Nat)).toList).map prD = fs.map prD := by simp
      rw [x2 p hn ho, em']
      generalize fs.map prD = FS at *
      simp [-band_ii, -shl_ii, -eq_ii, i0, lm, c, fo, ip, ib, q1, q2, q3, q4]
theorem fm_succ {Bs : List Nat} {b j : Nat} : (List.range (j + 1)).filterMap (nxtA Bs L R b) = (List.range j).filterMap (nxtA Bs L R b) ++ (nxtA Bs L R b j).toList := by
  rw [List.range_succ, List.filterMap_append]
  cases e : nxtA Bs L R b j with
  | none => rw [List.filterMap_cons_none e]; rfl
  | some x => rw [List.filterMap_cons_some e]; rfl
theorem fm_len {Bs : List Nat} {b j : Nat} : ((List.range j).filterMap (nxtA Bs L R b)).length ≤ j := by
  have := List.length_filterMap_le (nxtA Bs L R b) (List.range j)
  rwa [List.length_range] at this
theorem next_spec {Bs : List Nat} (N : NeedOk L R Bs) (H : House h L) (hR : RowOk L R) (h32 : R.length ≤ 32) {b : Nat} (C : Cl L R b) : ∃ o, m_next_places [kD (cnsR L R b), .int (b : Int), plD false L R, ownD false Bs] = .rt (.lst true ((nextsB Bs L R b).map prD)) o := by
  have h6 := H.l6
  obtain ⟨ρ', lp, v5, v6, v7, e⟩ := loopM (step := stepS (gT 2 (gsC (gN 5) (gsC (gN 6) gsN))) l_next_places_1) (f := fun a : Nat => .tup [.int (a : Int), ownD false (plR R (L.getD a (0, [])).1)]) (xs := List.range L.length) (ρ := [some (kD (cnsR L R b)), some (.int (b : Int)), some (plD false L R), some (ownD false Bs), some (.lst true []), none, none, none])
    (fun j ρ => ∃ v5 v6 v7, ρ = [some (kD (cnsR L R b)), some (.int (b : Int)), some (plD false L R), some (ownD false Bs), some (.lst true (((List.range j).filterMap (nxtA Bs L R b)).map prD)), v5, v6, v7])
    ⟨_, _, _, rfl⟩ (by
      rintro j x ρ hj ⟨v5, v6, v7, rfl⟩
      have hjl := (List.getElem?_eq_some_iff.mp hj).1
      rw [List.length_range] at hjl
      rw [List.getElem?_range hjl] at hj
      cases hj
      obtain ⟨v5', v6', v7', e⟩ := next_turn N h6 h32 H hR C hjl (fs := (List.range j).filterMap (nxtA Bs L R b)) fm_len (v5 := v5) (v6 := v6) (v7 := v7)
      exact ⟨_, e, _, _, _, by rw [fm_succ]⟩)
  subst e
  rw [List.length_range] at lp
  have en := pl_enum (o := false) (L := L) (R := R)
  have fk := @frz_kD (cnsR L R b)
  have fp : frz (plD false L R) = plD false L R := frz_pl
  have fb : frz (ownD false Bs) = ownD false Bs := frz_own
  refine ⟨[none, none, none, none], ?_⟩
  unfold m_next_places; rw [semOf_ap]; unfold b_next_places
  unfold nextsB
  generalize ((List.range L.length).filterMap (nxtA Bs L R b)).map prD = FF at *
  generalize ((List.range L.length).map fun a : Nat => D.tup [.int (a : Int), ownD false (plR R (L.getD a (0, [])).1)]) = EN at *
  generalize kD (cnsR L R b) = KC at *
  generalize ownD false Bs = BB at *
  generalize plD false L R = PD at *
  simp [en, fp, fk, fb, lp]
theorem keyT_kK {c : List Nat} : keyT (kK c) = kD c := by
  unfold keyT kK kD
  rw [List.map_map]; rfl
theorem la_get {w o : Bool} {acc : List En} {k : List Nat} {x : D} (hx : frz x = vP w (0, 0)) : getD2 (laD w o acc) (kD k) x = some (vP w ((lkE acc k).getD (0, 0))) := by
  rw [la_get2, hx]
  cases lkE acc k <;> rfl
theorem la_put2 {w : Bool} {acc : List En} {k : List Nat} {m b : Nat} (nd : (acc.map (·.1)).Nodup) (hl : acc.length < sizeLine) : putD (laD w true acc) (kD k) (vP w (((lkE acc k).getD (0, 0)).1 + m, b)) = some (laD w true (putE acc k m b)) := by
  rw [← la_put nd hl]
  cases lkE acc k <;> rfl
theorem vP_ix0 {w : Bool} {e : Nat × Nat} : gIxI (vP w e) (.int 0) = some (.int (e.1 : Int)) := by
  cases w
  · exact ixI_of (by unfold vP; rw [if_neg (by simp), ix_t, at_0]; rfl) rfl
  · exact ixI_of (by unfold vP; rw [if_pos rfl, ix_l, at_0]; rfl) rfl
theorem cnt_1 (H : House h L) (hR : RowOk L R) (h32 : R.length ≤ 32) {i : Nat} {e : En} (C : Cl L R e.2.2) (hc : cdB R.length e.2.2 = i) (hk : e.1 = cnsR L R e.2.2) {acc : List En} (I : PInv L R (i + 1) acc) {x : Nat × Nat} (X : NxOk L R e.2.2 x.1 x.2)
    {v0 v1 v2 v3 v4 v5 v6 v11 v12 v13 v14 : Option D} : ∃ v11' v12' v13',
    stepS (gT 2 (gsC (gN 11) (gsC (gN 12) gsN))) l_counted_1 (prD x) [v0, v1, v2, v3, v4, v5, v6, some (laD false true acc), some (kD e.1), some (.int (e.2.1 : Int)), some (.int (e.2.2 : Int)), v11, v12, v13, v14]
      = .nx [v0, v1, v2, v3, v4, v5, v6, some (laD false true (addE e acc x)), some (kD e.1), some (.int (e.2.1 : Int)), some (.int (e.2.2 : Int)), v11', v12', v13', v14] := by
  obtain ⟨a, p⟩ := x
  have l6 := H.l6
  have lc : e.1.length = L.length := by rw [hk, cns_len]
  have mo := more_spec (c := e.1) (a := a) (by rw [lc]; exact X.ha) (by omega)
  have hp := X.hp
  have lp := I.size H hR h32
  have g2 := la_get (w := false) (o := true) (acc := acc) (k := moreE e.1 a) (x := .tup [.int 0, .int 0]) rfl
  obtain ⟨M, hM⟩ : ∃ M, M = ((lkE acc (moreE e.1 a)).getD (0, 0)) := ⟨_, rfl⟩
  have pt := la_put2 (w := false) (m := e.2.1) (b := e.2.2 ||| 2 ^ p) (k := moreE e.1 a) I.nd lp
  have pt' : putD (laD false true acc) (kD (moreE e.1 a)) (vP false (((lkE acc (moreE e.1 a)).getD (0, 0)).1 + e.2.1, e.2.2 ||| 2 ^ p)) = some (laD false true (addE e acc (a, p))) := pt
  rw [← hM] at g2 pt'
  have ix := vP_ix0 (w := false) (e := M)
  have eb : gBor (.int (e.2.2 : Int)) (.int ((2 ^ p : Nat) : Int)) = some (.int ((e.2.2 ||| 2 ^ p : Nat) : Int)) := by rw [bor_ii, bor_nn]
  have es := shl_1 (p := p) (by omega)
  have ea : gAdd (.int (M.1 : Int)) (.int (e.2.1 : Int)) = some (.int ((M.1 + e.2.1 : Nat) : Int)) := by rw [add_ii, Int.natCast_add]
  have ev : D.tup [.int ((M.1 + e.2.1 : Nat) : Int), .int ((e.2.2 ||| 2 ^ p : Nat) : Int)] = vP false (M.1 + e.2.1, e.2.2 ||| 2 ^ p) := rfl
  have fv : frz (vP false (M.1 + e.2.1, e.2.2 ||| 2 ^ p)) = vP false (M.1 + e.2.1, e.2.2 ||| 2 ^ p) := frz_vP
  have iv : isImm (vP false M) = true := imm_vP
  have s2 : (2 : Nat) ≤ sizeLine := by decide
  have isd : isDct (laD false true acc) = true := rfl
  refine ⟨some (.int (a : Int)), some (.int (p : Int)), some (kD (moreE e.1 a)), ?_⟩
  rw [ap_step]; unfold l_counted_1 prD natD
  have fk := @frz_kD e.1
  have fk2 := @frz_kD (moreE e.1 a)
  have ik2 := @imm_kD (moreE e.1 a)
  have ik := @imm_kD e.1
  generalize laD false true (addE e acc (a, p)) = L2 at *
  generalize laD false true acc = L1 at *
  generalize kD (moreE e.1 a) = K1 at *
  generalize kD e.1 = K0 at *
  generalize vP false M = VM at *
  generalize ((2 ^ p : Nat) : Int) = P2 at *
  generalize ((e.2.2 ||| 2 ^ p : Nat) : Int) = P3 at *
  generalize ((M.1 + e.2.1 : Nat) : Int) = P4 at *
  simp [-shl_ii, -bor_ii, -add_ii, ap_dget, dctO, getR, putR, isd, mo, g2, pt', ix, eb, es, ea, ev, fv, iv, s2, fk, fk2, ik, ik2]
def pastsE (Bs : List Nat) (L : List (Nat × List Nat)) (R : List Nat) : Nat → Nat
  | 0 => 1
  | j + 1 => pastsE Bs L R j + (layE Bs L R (j + 1)).length
theorem cnt_1s (H : House h L) (hR : RowOk L R) (h32 : R.length ≤ 32) {Bs : List Nat} (N : NeedOk L R Bs) {i : Nat} {e : En} (C : Cl L R e.2.2) (hc : cdB R.length e.2.2 = i) (hk : e.1 = cnsR L R e.2.2) {acc : List En} (I : PInv L R (i + 1) acc)
    {v0 v1 v2 v3 v4 v5 v6 v11 v12 v13 v14 : Option D} : ∃ v11' v12' v13',
    loopS (stepS (gT 2 (gsC (gN 11) (gsC (gN 12) gsN))) l_counted_1) ((nextsB Bs L R e.2.2).map prD) [v0, v1, v2, v3, v4, v5, v6, some (laD false true acc), some (kD e.1), some (.int (e.2.1 : Int)), some (.int (e.2.2 : Int)), v11, v12, v13, v14]
      = .nx [v0, v1, v2, v3, v4, v5, v6, some (laD false true (spreadE Bs L R acc e)), some (kD e.1), some (.int (e.2.1 : Int)), some (.int (e.2.2 : Int)), v11', v12', v13', v14] := by
  obtain ⟨ρ', lp, acc', w11, w12, w13, e0, _, _, ef⟩ := loopL (step := stepS (gT 2 (gsC (gN 11) (gsC (gN 12) gsN))) l_counted_1) (f := prD)
    (fun xs ρ => ∃ (acc' : List En) (w11 w12 w13 : Option D), ρ = [v0, v1, v2, v3, v4, v5, v6, some (laD false true acc'), some (kD e.1), some (.int (e.2.1 : Int)), some (.int (e.2.2 : Int)), w11, w12, w13, v14] ∧ PInv L R (i + 1) acc' ∧ (∀ x ∈ xs, NxOk L R e.2.2 x.1 x.2) ∧ xs.foldl (addE e) acc' = spreadE Bs L R acc e)
    (nextsB Bs L R e.2.2) _ ⟨acc, v11, v12, v13, rfl, I, fun x hx => nxt_ok H hR N C hx, rfl⟩ (by
      rintro x xs ρ ⟨acc', w11, w12, w13, rfl, I', hx, ef⟩
      obtain ⟨_, _, _, e1⟩ := cnt_1 H hR h32 C hc hk I' (hx x List.mem_cons_self) (v0 := v0) (v1 := v1) (v2 := v2) (v3 := v3) (v4 := v4) (v5 := v5) (v6 := v6) (v11 := w11) (v12 := w12) (v13 := w13) (v14 := v14)
      exact ⟨_, e1, _, _, _, _, rfl, (spread_inv H hR C hc hk [x] acc' (fun y hy => (List.mem_singleton.mp hy) ▸ hx x List.mem_cons_self) I').1, fun y hy => hx y (List.mem_cons_of_mem _ hy), ef⟩)
  subst e0
  have ef : acc' = spreadE Bs L R acc e := ef
  rw [← ef]
  exact ⟨w11, w12, w13, lp⟩
theorem cnt_2 (H : House h L) (hR : RowOk L R) (h32 : R.length ≤ 32) {Bs : List Nat} (N : NeedOk L R Bs) {i : Nat} {lay : List En} (Il : PInv L R i lay) {e : En} (he : e ∈ lay) {acc : List En} (I : PInv L R (i + 1) acc) {o2 o3 : Bool}
    {v0 v1 v5 v6 v8 v9 v10 v11 v12 v13 v14 : Option D} : ∃ v8' v9' v10' v11' v12' v13',
    stepS (gN 8) l_counted_2 (keyT (kK e.1)) [v0, v1, some (plD o2 L R), some (ownD o3 Bs), some (laD false false lay), v5, v6, some (laD false true acc), v8, v9, v10, v11, v12, v13, v14]
      = .nx [v0, v1, some (plD false L R), some (ownD false Bs), some (laD false false lay), v5, v6, some (laD false true (spreadE Bs L R acc e)), some v8', v9', v10', v11', v12', v13', v14] ∧ isImm v8' = true := by
  obtain ⟨C, hc, hk⟩ := Il.en e he
  obtain ⟨ox, nx⟩ := next_spec N H hR h32 C
  rw [← hk] at nx
  have ix := la_ix (w := false) (o := false) Il.nd he
  obtain ⟨w11, w12, w13, lp⟩ := cnt_1s H hR h32 N C hc hk I (v0 := v0) (v1 := v1) (v2 := some (plD false L R)) (v3 := some (ownD false Bs)) (v4 := some (laD false false lay)) (v5 := v5) (v6 := v6) (v11 := v11) (v12 := v12) (v13 := v13) (v14 := v14)
  refine ⟨kD e.1, some (.int (e.2.1 : Int)), some (.int (e.2.2 : Int)), w11, w12, w13, ?_, imm_kD⟩
  rw [ap_step, keyT_kK]; unfold l_counted_2
  have fk := @frz_kD e.1
  have ik := @imm_kD e.1
  have fp : frz (plD o2 L R) = plD false L R := frz_pl
  have fb : frz (ownD o3 Bs) = ownD false Bs := frz_own
  have fp1 : frz (plD false L R) = plD false L R := frz_pl
  have fb1 : frz (ownD false Bs) = ownD false Bs := frz_own
  have gt : gT 2 (gsC (gN 9) (gsC (gN 10) gsN)) (vP false e.2) [v0, v1, some (plD o2 L R), some (ownD o3 Bs), some (laD false false lay), v5, v6, some (laD false true acc), some (kD e.1), v9, v10, v11, v12, v13, v14] = some [v0, v1, some (plD o2 L R), some (ownD o3 Bs), some (laD false false lay), v5, v6, some (laD false true acc), some (kD e.1), some (.int (e.2.1 : Int)), some (.int (e.2.2 : Int)), v11, v12, v13, v14] := by
    unfold vP natD; simp
  have iv : isImm (vP false e.2) = true := imm_vP
  have it : itemsL (D.lst true ((nextsB Bs L R e.2.2).map prD)) = some ((nextsB Bs L R e.2.2).map prD) := by
    rw [items_l, frzs_mapf (f := prD) (g := prD) fun _ _ => rfl]
  generalize (nextsB Bs L R e.2.2).map prD = NX at *
  generalize laD false true (spreadE Bs L R acc e) = L2 at *
  generalize laD false true acc = L1 at *
  generalize laD false false lay = L0 at *
  generalize plD false L R = P1 at *
  generalize plD o2 L R = P2 at *
  generalize ownD false Bs = B1 at *
  generalize ownD o3 Bs = B2 at *
  generalize kD e.1 = K0 at *
  generalize vP false e.2 = VV at *
  simp [ix, gt, nx, it, fk, ik, fp, fb, fp1, fb1, lp, iv]
theorem cnt_2s (H : House h L) (hR : RowOk L R) (h32 : R.length ≤ 32) {Bs : List Nat} (N : NeedOk L R Bs) {i : Nat} {lay : List En} (Il : PInv L R i lay) {o2 o3 : Bool}
    {v0 v1 v5 v6 v8 v9 v10 v11 v12 v13 v14 : Option D} (i8 : immO (some v8) = true) : ∃ o2' o3' v8' v9' v10' v11' v12' v13',
    loopS (stepS (gN 8) l_counted_2) (lay.map fun e => keyT (kK e.1)) [v0, v1, some (plD o2 L R), some (ownD o3 Bs), some (laD false false lay), v5, v6, some (laD false true []), v8, v9, v10, v11, v12, v13, v14]
      = .nx [v0, v1, some (plD o2' L R), some (ownD o3' Bs), some (laD false false lay), v5, v6, some (laD false true (stepE Bs L R lay)), v8', v9', v10', v11', v12', v13', v14] ∧ immO (some v8') = true := by
  obtain ⟨ρ', lp, acc', o2', o3', w8, w9, w10, w11, w12, w13, e0, i8', _, _, ef⟩ := loopL (step := stepS (gN 8) l_counted_2) (f := fun e : En => keyT (kK e.1))
    (fun xs ρ => ∃ (acc' : List En) (o2' o3' : Bool) (w8 w9 w10 w11 w12 w13 : Option D), ρ = [v0, v1, some (plD o2' L R), some (ownD o3' Bs), some (laD false false lay), v5, v6, some (laD false true acc'), w8, w9, w10, w11, w12, w13, v14] ∧ immO (some w8) = true ∧ PInv L R (i + 1) acc' ∧ (∀ x ∈ xs, x ∈ lay) ∧ xs.foldl (spreadE Bs L R) acc' = stepE Bs L R lay)
    lay _ ⟨[], o2, o3, v8, v9, v10, v11, v12, v13, rfl, i8, PInv.nil, fun _ z => z, rfl⟩ (by
      rintro x xs ρ ⟨acc', o2', o3', w8, w9, w10, w11, w12, w13, rfl, _, I', hx, ef⟩
      have hm := hx x List.mem_cons_self
      obtain ⟨_, _, _, _, _, _, e1, iv⟩ := cnt_2 H hR h32 N Il hm I' (o2 := o2') (o3 := o3') (v0 := v0) (v1 := v1) (v5 := v5) (v6 := v6) (v8 := w8) (v9 := w9) (v10 := w10) (v11 := w11) (v12 := w12) (v13 := w13) (v14 := v14)
      obtain ⟨C, hc, hk⟩ := Il.en x hm
      exact ⟨_, e1, _, _, _, _, _, _, _, _, _, rfl, iv, (spread_inv H hR C hc hk (nextsB Bs L R x.2.2) acc' (fun y hy => nxt_ok H hR N C hy) I').1, fun y hy => hx y (List.mem_cons_of_mem _ hy), ef⟩)
  subst e0
  have ef : acc' = stepE Bs L R lay := ef
  rw [← ef]
  exact ⟨o2', o3', w8, w9, w10, w11, w12, w13, lp, i8'⟩
theorem la_forK {w o : Bool} {lay : List En} {i : Nat} {t : D → Ev → Option Ev} {g : Ev → RS} {ρ : Ev} : forKRT (some (some (laD w o lay))) i t g ρ = noX (loopS (stepS t g) (lay.map fun e => keyT (kK e.1)) (ρ.set i (some (laD w false lay)))) := by
  unfold laD
  rw [forKR_sT, List.map_map, frzs_mapf (f := fun e : En => vP w e.2) (g := fun e : En => vP w e.2) fun _ _ => frz_vP]; rfl
theorem cnt_3 (H : House h L) (hR : RowOk L R) (h32 : R.length ≤ 32) {Bs : List Nat} (N : NeedOk L R Bs) {j : Nat} {o o2 o3 : Bool} {d : D}
    {v0 v1 v6 v7 v8 v9 v10 v11 v12 v13 v14 : Option D} (i8 : immO (some v8) = true) : ∃ o2' o3' v6' v7' v8' v9' v10' v11' v12' v13',
    stepS (gN 6) l_counted_3 d [v0, v1, some (plD o2 L R), some (ownD o3 Bs), some (laD false o (layE Bs L R j)), some (.int (pastsE Bs L R j : Int)), v6, v7, v8, v9, v10, v11, v12, v13, v14]
      = .nx [v0, v1, some (plD o2' L R), some (ownD o3' Bs), some (laD false false (layE Bs L R (j + 1))), some (.int (pastsE Bs L R (j + 1) : Int)), v6', v7', v8', v9', v10', v11', v12', v13', v14] ∧ immO (some v8') = true := by
  obtain ⟨Il, _⟩ := lay_inv H hR N j
  obtain ⟨o2', o3', w8, w9, w10, w11, w12, w13, lp, i8'⟩ := cnt_2s H hR h32 N Il (o2 := o2) (o3 := o3) (v0 := v0) (v1 := v1) (v5 := some (.int (pastsE Bs L R j : Int))) (v6 := some d) (v8 := v8) (v9 := v9) (v10 := v10) (v11 := v11) (v12 := v12) (v13 := v13) (v14 := v14) i8
  refine ⟨o2', o3', some d, some (laD false false (layE Bs L R (j + 1))), w8, w9, w10, w11, w12, w13, ?_, i8'⟩
  have fk : ∀ ρ : Ev, _ := fun ρ => la_forK (w := false) (o := o) (lay := layE Bs L R j) (i := 4) (t := gN 8) (g := l_counted_2) (ρ := ρ)
  have ll : gLenT [laD false false (layE Bs L R (j + 1))] = some (.int ((layE Bs L R (j + 1)).length : Int)) := la_len
  have e0 : D.dcT true [] [] = laD false true [] := rfl
  have e2 : layE Bs L R (j + 1) = stepE Bs L R (layE Bs L R j) := rfl
  rw [← e2] at lp
  have f7 : frz (laD false true (layE Bs L R (j + 1))) = laD false false (layE Bs L R (j + 1)) := frz_la
  have f7' : frz (laD false false (layE Bs L R (j + 1))) = laD false false (layE Bs L R (j + 1)) := frz_la
  have ep : (pastsE Bs L R j : Int) + ((layE Bs L R (j + 1)).length : Int) = ((pastsE Bs L R (j + 1) : Nat) : Int) := by
    show _ = ((pastsE Bs L R j + (layE Bs L R (j + 1)).length : Nat) : Int)
    rw [Int.natCast_add]
  rw [ap_step]; unfold l_counted_3
  generalize (layE Bs L R j).map (fun e => keyT (kK e.1)) = KS at *
  generalize (pastsE Bs L R (j + 1) : Int) = PP at *
  generalize ((layE Bs L R (j + 1)).length : Int) = LL at *
  generalize laD false true (layE Bs L R (j + 1)) = L2 at *
  generalize laD false false (layE Bs L R (j + 1)) = L3 at *
  generalize laD false o (layE Bs L R j) = L1 at *
  generalize laD false false (layE Bs L R j) = L0 at *
  generalize plD o2 L R = P1 at *
  generalize plD o2' L R = P2 at *
  generalize ownD o3 Bs = B1 at *
  generalize ownD o3' Bs = B2 at *
  simp [e0, fk, lp, f7, f7', ll, ep, augS, gI2]
def sumE (lay : List En) : Nat := (lay.map fun e => e.2.1).sum
theorem sum_nats {o : Bool} {ms : List Nat} : gSum [.lst o (ms.map natD)] = some (.int (ms.sum : Int)) := by
  have e1 : gSum [.lst o (ms.map natD)] = (intsD (ms.map natD)).map fun bs => .int bs.sum := rfl
  rw [e1, intsD_nats]
  have : ∀ ms : List Nat, (ms.map fun x => ((x : Nat) : Int)).sum = ((ms.sum : Nat) : Int) := by
    intro ms
    induction ms with
    | nil => rfl
    | cons x xs ih => rw [List.map_cons, List.sum_cons, List.sum_cons, ih, Int.natCast_add]
  show some (D.int _) = _
  rw [this]
theorem sum_lc (H : House h L) (hR : RowOk L R) (h32 : R.length ≤ 32) {Bs : List Nat} (N : NeedOk L R Bs) {n : Nat} {w o : Bool} {ρ : Ev} (e4 : ρ[4]? = some (some (laD w o (layE Bs L R n)))) (h8 : 8 < ρ.length) (i8 : immAt (ρ.set 4 (some (laD w false (layE Bs L R n)))) [8] = true) : fLcF 4 (gN 8) fYes (fI (vOp2 gIx (vOp2 gIx (vVar 4) (vVar 8)) (vK (.int 0)))) [8] ρ = .ok (.lst true (((layE Bs L R n).map fun e => e.2.1).map natD)) (ρ.set 4 (some (laD w false (layE Bs L R n)))) := by
  obtain ⟨I, _⟩ := lay_inv H hR N n
  have sz := I.size H hR h32
  have fz : frz (laD w o (layE Bs L R n)) = laD w false (layE Bs L R n) := frz_la
  rw [lcF_at (o := o) (ks := (layE Bs L R n).map fun e => kK e.1) (xs := (layE Bs L R n).map fun e => vP w e.2) e4]
  have fz' : frz (.dcT o ((layE Bs L R n).map fun e => kK e.1) ((layE Bs L R n).map fun e => vP w e.2)) = laD w false (layE Bs L R n) := fz
  rw [fz', List.map_map]
  have h4 : 4 < ρ.length := (List.getElem?_eq_some_iff.mp e4).1
  obtain ⟨ρ1, hρ⟩ : ∃ ρ1, ρ1 = ρ.set 4 (some (laD w false (layE Bs L R n))) := ⟨_, rfl⟩
  have r4 : ρ1[4]? = some (some (laD w false (layE Bs L R n))) := by rw [hρ, List.getElem?_set_self h4]
  have l8 : 8 < ρ1.length := by rw [hρ, List.length_set]; exact h8
  rw [← hρ] at i8 ⊢
  refine lc_all (xs := layE Bs L R n) (g := fun e : En => keyT (kK e.1)) (e := fun e : En => natD e.2.1) ?_ i8 (Nat.le_of_lt sz) fun e he => ?_
  · have : iKeyT 4 ρ1 = keyRT ρ1[4]? ρ1 := ap_keyT
    rw [this, r4]
    unfold laD
    rw [keyRT_s, List.map_map]; rfl
  · have ix := la_ix (w := w) (o := false) I.nd he
    refine ⟨(wipeE ρ1 [8]).set 8 (some (keyT (kK e.1))), ?_, (wipeE ρ1 [8]).set 8 (some (keyT (kK e.1))), ?_, ?_⟩
    · rw [ap_gN]
    · have w4 : ((wipeE ρ1 [8]).set 8 (some (keyT (kK e.1))))[4]? = some (some (laD w false (layE Bs L R n))) := by
        rw [List.getElem?_set_ne (by omega)]
        show (ρ1.set 8 none)[4]? = _
        rw [List.getElem?_set_ne (by omega), r4]
      have w8 : ((wipeE ρ1 [8]).set 8 (some (keyT (kK e.1))))[8]? = some (some (kD e.1)) := by
        rw [List.getElem?_set_self (by show 8 < (ρ1.set 8 none).length; rw [List.length_set]; exact l8), keyT_kK]
      have ix0 := vP_ix0 (w := w) (e := e.2)
      generalize laD w false (layE Bs L R n) = LA at *
      generalize (wipeE ρ1 [8]).set 8 (some (keyT (kK e.1))) = ρ3 at *
      have ix0' : gIx (vP w e.2) (.int 0) = some (.int (e.2.1 : Int)) := by
        cases w
        · unfold vP; rw [if_neg (by simp), ix_t, at_0]; rfl
        · unfold vP; rw [if_pos rfl, ix_l, at_0]; rfl
      simp [-ix_t, -ix_l, w4, w8, ix, ix0', natD]
    · show ((ρ1.set 8 none).set 8 _).set 8 none = ρ1.set 8 none
      rw [List.set_set, List.set_set]
theorem counted_spec (H : House h L) (hR : RowOk L R) (h32 : R.length ≤ 32) {Bs : List Nat} (N : NeedOk L R Bs) (tb : m_bits_below [houD false h L, .str (rowS R)] = .rt (.lst true (Bs.map natD)) [none, none]) : ∃ o, m_counted [houD false h L, .str (rowS R)] = .rt (.tup [.int (sumE (layE Bs L R R.length) : Int), .int (pastsE Bs L R R.length : Int)]) o := by
  have h6 := H.l6
  have pl := places_spec H (R := R) (by omega)
  obtain ⟨ρ', lp, o, o2, o3, v6, v7, v8, v9, v10, v11, v12, v13, e, i8⟩ := loopM (step := stepS (gN 6) l_counted_3) (f := sgD) (xs := R) (ρ := [some (houD false h L), some (.str (rowS R)), some (plD false L R), some (ownD true Bs), some (laD false true (layE Bs L R 0)), some (.int 1), none, none, none, none, none, none, none, none, none])
    (fun j ρ => ∃ (o o2 o3 : Bool) (v6 v7 v8 v9 v10 v11 v12 v13 : Option D), ρ = [some (houD false h L), some (.str (rowS R)), some (plD o2 L R), some (ownD o3 Bs), some (laD false o (layE Bs L R j)), some (.int (pastsE Bs L R j : Int)), v6, v7, v8, v9, v10, v11, v12, v13, none] ∧ immO (some v8) = true)
    ⟨true, false, true, none, none, none, none, none, none, none, none, rfl, rfl⟩ (by
      rintro j x ρ hj ⟨o, o2, o3, v6, v7, v8, v9, v10, v11, v12, v13, rfl, i8⟩
      obtain ⟨_, _, _, _, _, _, _, _, _, _, e, i8'⟩ := cnt_3 H hR h32 N (j := j) (o := o) (o2 := o2) (o3 := o3) (d := sgD x) (v0 := some (houD false h L)) (v1 := some (.str (rowS R))) (v6 := v6) (v7 := v7) (v8 := v8) (v9 := v9) (v10 := v10) (v11 := v11) (v12 := v12) (v13 := v13) (v14 := none) i8
      exact ⟨_, e, _, _, _, _, _, _, _, _, _, _, _, rfl, i8'⟩)
  subst e
  have sl := sum_lc H hR h32 N (n := R.length) (w := false) (o := o) (ρ := [some (houD false h L), some (.str (rowS R)), some (plD o2 L R), some (ownD o3 Bs), some (laD false o (layE Bs L R R.length)), some (.int (pastsE Bs L R R.length : Int)), v6, v7, v8, v9, v10, v11, v12, v13, none]) rfl (by simp) (by simpa using i8)
  have sn := sum_nats (o := true) (ms := (layE Bs L R R.length).map fun e => e.2.1)
  have its : itemsS (.str (rowS R)) = some (R.map sgD) := by
    show some (strD (rowS R)) = _
    rw [strD_row]
  have itp : itemsL (plD false L R) = some ((plL L R).map (ownD false)) := pl_items
  have fp : frz (plD true L R) = plD false L R := frz_pl
  have l6 : (plL L R).length ≤ sizeLine := by unfold plL; rw [List.length_map]; exact Nat.le_trans h6 (by decide)
  have lcz : ∀ v1 : Option D, fLc (fIt itemsL (fVar 2)) (gN 14) fYes (fK (.int 0)) [14] [some (houD false h L), some (.str (rowS R)), some (plD true L R), some (ownD true Bs), none, none, none, none, none, none, none, none, none, none, none]
      = .ok (.lst true ((plL L R).map fun _ => D.int 0)) [some (houD false h L), some (.str (rowS R)), some (plD false L R), some (ownD true Bs), none, none, none, none, none, none, none, none, none, none, none] := fun _ => by
    refine lc_all (xs := plL L R) (g := ownD false) (e := fun _ => .int 0) ?_ (by simp) l6 fun x _ => ?_
    · generalize plD true L R = P1 at *
      generalize plD false L R = P2 at *
      simp [itp, fp]
    · exact ⟨[some (houD false h L), some (.str (rowS R)), some (plD false L R), some (ownD true Bs), none, none, none, none, none, none, none, none, none, none, some (ownD false x)], by simp, [some (houD false h L), some (.str (rowS R)), some (plD false L R), some (ownD true Bs), none, none, none, none, none, none, none, none, none, none, some (ownD false x)], by simp, by simp⟩
  have lz : (plL L R).map (fun _ => D.int 0) = (L.map fun _ => 0).map natD := by unfold plL; rw [List.map_map, List.map_map]; rfl
  rw [lz] at lcz
  have gt : gTuple [.lst true ((L.map fun _ => 0).map natD)] = some (kD (L.map fun _ => 0)) := by
    show (if isImms ((L.map fun _ => 0).map natD) = true then _ else _) = _
    rw [if_pos imms_nats]; rfl
  have kt := keysT_kD (x := L.map fun _ => 0)
  have la0 : laD false true (layE Bs L R 0) = .dcT true [kK (L.map fun _ => 0)] [.tup [.int 1, .int 0]] := rfl
  have fH : frz (houD false h L) = houD false h L := by simp
  have iK := @imm_kD (L.map fun _ => 0)
  have fK := @frz_kD (L.map fun _ => 0)
  have s2 : (2 : Nat) ≤ sizeLine := by decide
  have es : ((((layE Bs L R R.length).map fun e => e.2.1).sum : Nat) : Int) = (sumE (layE Bs L R R.length) : Int) := rfl
  rw [es] at sn
  have lcz := lcz none
  unfold m_counted; rw [semOf_ap]; unfold b_counted
  refine ⟨[none, none], ?_⟩
  have bo : D.lst true (Bs.map natD) = ownD true Bs := rfl
  rw [bo] at tb
  simp only [List.set_cons_succ, List.set_cons_zero] at sl
  rw [la0] at lp
  generalize ((layE Bs L R R.length).map fun e => e.2.1).map natD = SS at *
  generalize laD false o (layE Bs L R R.length) = LN at *
  generalize laD false false (layE Bs L R R.length) = LF at *
  generalize (sumE (layE Bs L R R.length) : Int) = SE at *
  generalize (pastsE Bs L R R.length : Int) = PE at *
  generalize houD false h L = HH at *
  generalize plD true L R = P1 at *
  generalize plD false L R = P2 at *
  generalize plD o2 L R = P3 at *
  generalize ownD true Bs = B1 at *
  generalize ownD o3 Bs = B2 at *
  generalize kK (L.map fun _ => 0) = KK at *
  generalize kD (L.map fun _ => 0) = KD at *
  generalize (L.map fun _ => 0).map natD = LZ at *
  generalize R.map sgD = RS at *
  simp [fH, pl, tb, lcz, gt, kt, fK, iK, s2, its, lp, sl, sn]
theorem sum_pow : ∀ {ms : List Nat}, ms.Nodup → ∀ i, ((ms.map fun k => 2 ^ k).sum).testBit i = decide (i ∈ ms)
  | [], _, i => by simp
  | m :: ms, nd, i => by
    rw [List.nodup_cons] at nd
    have ih := sum_pow nd.2
    have hm : ((ms.map fun k => 2 ^ k).sum).testBit m = false := by rw [ih]; simpa using nd.1
    have e : 2 ^ m + (ms.map fun k => 2 ^ k).sum = (ms.map fun k => 2 ^ k).sum ||| 2 ^ m := by
      rw [Nat.add_comm]; exact add_disj (disj_pow hm)
    rw [List.map_cons, List.sum_cons, e, bit_or_pow, ih, Bool.eq_iff_iff, Bool.or_eq_true, decide_eq_true_eq, decide_eq_true_eq, decide_eq_true_eq, List.mem_cons]
    constructor
    · rintro (z | z)
      · exact .inr z
      · exact .inl z.symm
    · rintro (z | z)
      · exact .inr z.symm
      · exact .inl z
theorem need_sum {Bs : List Nat} (N : NeedOk L R Bs) {j : Nat} (hj : j < R.length) {ms : List Nat} (hm : ∀ x, x ∈ ms ↔ Below L R x j) (hp : ms.Pairwise (· < ·)) : (ms.map fun k => 2 ^ k).sum = Bs.getD j 0 := by
  apply Nat.eq_of_testBit_eq
  intro i
  rw [sum_pow (List.Pairwise.imp (fun h => Nat.ne_of_lt h) hp), Bool.eq_iff_iff, decide_eq_true_eq, hm, N.bits j hj i]
theorem mo_sl1 {c : List Nat} {a : Nat} (ha : a < c.length) : gSl (kD c) none (some (a : Int)) = some (kD (c.take a)) := by
  unfold kD gSl
  dsimp only
  rw [HT.sIx_none, HT.sIx_nat, List.length_map, Nat.min_eq_left (by omega), if_pos ⟨imms_nats, by omega⟩]
  unfold Hap.cutD
  rw [HT.sIx_none, HT.sIx_nat, List.length_map, Nat.min_eq_left (by omega), List.drop_zero, Nat.sub_zero, List.map_take]
theorem mo_sl2 {c : List Nat} {a : Nat} (ha : a < c.length) : gSl (kD c) (some ((a : Int) + 1)) none = some (kD (c.drop (a + 1))) := by
  have e2 : (a : Int) + 1 = ((a + 1 : Nat) : Int) := (Int.natCast_add a 1).symm
  rw [e2]
  unfold kD gSl
  dsimp only
  rw [HT.sIx_none, HT.sIx_nat, List.length_map, Nat.min_eq_left (by omega), if_pos ⟨imms_nats, by omega⟩]
  unfold Hap.cutD
  rw [HT.sIx_none, HT.sIx_nat, List.length_map, Nat.min_eq_left (by omega), List.take_of_length_le (by rw [List.length_drop, List.length_map]; exact Nat.le_refl _), List.map_drop]
theorem mo_a1 {c : List Nat} {a : Nat} (hc : c.length ≤ 100) : gAddT (kD (c.take a)) (.tup [.int ((c.getD a 0 : Int) + 1)]) = some (kD (c.take a ++ [c.getD a 0 + 1])) := by
  have e1 : D.int ((c.getD a 0 : Int) + 1) = natD (c.getD a 0 + 1) := by unfold natD; rw [Int.natCast_add]; rfl
  rw [e1]
  unfold kD
  rw [add_tt, if_pos ⟨⟨imms_nats, rfl⟩, Nat.le_trans (m := 300) (by simp; omega) (by decide)⟩, List.map_append]; rfl
theorem mo_a2 {c : List Nat} {a : Nat} (ha : a < c.length) (hc : c.length ≤ 100) : gAddT (kD (c.take a ++ [c.getD a 0 + 1])) (kD (c.drop (a + 1))) = some (kD (moreE c a)) := by
  unfold kD
  rw [add_tt, if_pos ⟨⟨imms_nats, imms_nats⟩, Nat.le_trans (m := 300) (by simp; omega) (by decide)⟩, ← List.map_append]
  congr 3
  unfold moreE
  rw [List.set_eq_take_append_cons_drop, if_pos ha]; simp
theorem lw_1 (H : House h L) (hR : RowOk L R) (h32 : R.length ≤ 32) (hne : 1 ≤ R.length) {Bs : List Nat} (N : NeedOk L R Bs) {i : Nat} {e : En} (C : Cl L R e.2.2) (hc : cdB R.length e.2.2 = i) (hk : e.1 = cnsR L R e.2.2) {acc : List En} (I : PInv L R (i + 1) acc) {a : Nat} (ha : a < L.length) {o2 : Bool}
    {v0 v1 v3 v4 v5 v6 v11 v12 v13 v14 v15 v16 v17 : Option D} : ∃ v11' v12' v13' v14' v15',
    stepS (gT 2 (gsC (gN 11) (gsC (gN 12) gsN))) l__law_counted_1 (.tup [.int (a : Int), ownD false (plR R (L.getD a (0, [])).1)]) [v0, v1, some (ownD o2 Bs), v3, v4, v5, v6, some (laD true true acc), some (kD e.1), some (.int (e.2.1 : Int)), some (.int (e.2.2 : Int)), v11, v12, v13, v14, v15, v16, v17]
      = .nx [v0, v1, some (ownD o2 Bs), v3, v4, v5, v6, some (laD true true ((nxtA Bs L R e.2.2 a).toList.foldl (addE e) acc)), some (kD e.1), some (.int (e.2.1 : Int)), some (.int (e.2.2 : Int)), v11', v12', v13', v14', v15', v16, v17] := by
  have l6 := H.l6
  have lc : e.1.length = L.length := by rw [hk, cns_len]
  have cg : e.1.getD a 0 = cnR R e.2.2 (L.getD a (0, [])).1 := by rw [hk, cns_getD ha]
  have x0 := fun z => nxA_none (L := L) (R := R) (Bs := Bs) (b := e.2.2) (a := a) z
  have x1 := fun p z o => nxA_yes (L := L) (R := R) (Bs := Bs) (b := e.2.2) (a := a) (p := p) z o
  have x2 := fun p z o => nxA_no (L := L) (R := R) (Bs := Bs) (b := e.2.2) (a := a) (p := p) z o
  obtain ⟨l, hl⟩ : ∃ l, l = (L.getD a (0, [])).1 := ⟨_, rfl⟩
  rw [← hl] at x0 x1 x2 cg ⊢
  have i0 : gIx (kD e.1) (.int (a : Int)) = some (.int ((cnR R e.2.2 l : Nat) : Int)) := by rw [kD_at (by omega), cg]; rfl
  have i0' : gIx (kD e.1) (.int (a : Int)) = some (.int (e.1.getD a 0 : Int)) := by rw [kD_at (by omega)]; rfl
  have lm : gLen [ownD false (plR R l)] = some (.int ((plR R l).length : Int)) := by unfold ownD; rw [len_l, List.length_map]
  have lpl : (plR R l).length ≤ R.length := by unfold plR; exact Nat.le_trans (List.length_filter_le _ _) (by rw [List.length_range]; exact Nat.le_refl _)
  have ad : ∀ o : Bool, gAdd (ownD false (plR R l)) (.lst o [.int 0]) = some (ownD true (plR R l ++ [0])) := fun o => by
    unfold ownD
    rw [add_ll, if_pos ⟨⟨imms_nats, rfl⟩, Nat.le_trans (m := 33) (by simp; omega) (by decide)⟩, List.map_append]; rfl
  have adt := ad true
  have adf := ad false
  have cl := cn_le (R := R) (b := e.2.2) (l := l)
  obtain ⟨k, hkk⟩ : ∃ k, k = (plR R l ++ [0]).getD (cnR R e.2.2 l) 0 := ⟨_, rfl⟩
  have ik : gIx (ownD true (plR R l ++ [0])) (.int ((cnR R e.2.2 l : Nat) : Int)) = some (.int (k : Int)) := by
    rw [own_ix (by rw [List.length_append, List.length_singleton]; omega), hkk]; rfl
  have fo : frz (ownD false (plR R l)) = ownD false (plR R l) := frz_own
  have fk := @frz_kD e.1
  have ik0 := @imm_kD e.1
  have s1 : (1 : Nat) ≤ sizeLine := by decide
  have n1 : gAdd (.int ((cnR R e.2.2 l : Nat) : Int)) (.int 1) = some (.int (((cnR R e.2.2 l : Nat) : Int) + 1)) := rfl
  have n2 : gAdd (.int (a : Int)) (.int 1) = some (.int ((a : Int) + 1)) := rfl
  by_cases c : cnR R e.2.2 l < (plR R l).length
  · have c' : ((cnR R e.2.2 l : Nat) : Int) < ((plR R l).length : Int) := by omega
    have hn : nxP R e.2.2 l = some k := by
      unfold nxP
      rw [hkk, List.getD_eq_getElem?_getD, List.getElem?_append_left c, List.getElem?_eq_getElem c]; rfl
    obtain ⟨p1, p2, p3⟩ := nx_props H hR C hn
    have ib : gIx (ownD o2 Bs) (.int (k : Int)) = some (.int (Bs.getD k 0 : Int)) := by rw [own_ix (by rw [N.len]; exact p1)]; rfl
    have q1 : gInv (.int (e.2.2 : Int)) = some (.int (Builtin.bitNot (e.2.2 : Int))) := inv_i
    have q2 : gBand (.int (Bs.getD k 0 : Int)) (.int (Builtin.bitNot (e.2.2 : Int))) = some (.int ((Bs.getD k 0 - (Bs.getD k 0 &&& e.2.2) : Nat) : Int)) := by rw [band_ii, band_need]
    have q3 := shl_1 (p := k) (by omega)
    have q4 := ok_eq (Bs := Bs) (b := e.2.2) (p := k)
    cases ho : okB Bs e.2.2 k with
    | false =>
      rw [ho] at q4
      rw [x2 k hn ho]
      refine ⟨some (.int (a : Int)), some (ownD false (plR R l)), some (.int (k : Int)), v14, v15, ?_⟩
      rw [ap_step]; unfold l__law_counted_1
      show _ = RS.nx [_, _, _, _, _, _, _, some (laD true true acc), _, _, _, _, _, _, _, _, _, _]
      generalize ((Bs.getD k 0 - (Bs.getD k 0 &&& e.2.2) : Nat) : Int) = Z1 at *
      generalize ((2 ^ k : Nat) : Int) = Z2 at *
      generalize (Bs.getD k 0 : Int) = Z3 at *
      generalize laD true true acc = L1 at *
      generalize ownD true (plR R l ++ [0]) = PA at *
      generalize ownD false (plR R l) = PL at *
      generalize ownD o2 Bs = BB at *
      generalize kD e.1 = K0 at *
      simp [-band_ii, -shl_ii, -eq_ii, -ix_l, s1, i0, lm, c', fo, ik, ib, q1, q2, q3, q4, adt, adf]
    | true =>
      rw [ho] at q4
      rw [x1 k hn ho]
      have lp := I.size H hR h32
      have g2 := la_get (w := true) (o := true) (acc := acc) (k := moreE e.1 a) (x := .lst true [.int 0, .int 0]) rfl
      obtain ⟨M, hM⟩ : ∃ M, M = ((lkE acc (moreE e.1 a)).getD (0, 0)) := ⟨_, rfl⟩
      have pt := la_put2 (w := true) (m := e.2.1) (b := e.2.2 ||| 2 ^ k) (k := moreE e.1 a) I.nd lp
      have pt' : putD (laD true true acc) (kD (moreE e.1 a)) (vP true (((lkE acc (moreE e.1 a)).getD (0, 0)).1 + e.2.1, e.2.2 ||| 2 ^ k)) = some (laD true true (addE e acc (a, k))) := pt
      rw [← hM] at g2 pt'
      have ix : gIx (vP true M) (.int 0) = some (.int (M.1 : Int)) := by unfold vP; rw [if_pos rfl, ix_l, at_0]; rfl
      have eb : gBor (.int (e.2.2 : Int)) (.int ((2 ^ k : Nat) : Int)) = some (.int ((e.2.2 ||| 2 ^ k : Nat) : Int)) := by rw [bor_ii, bor_nn]
      have ea : gAdd (.int (M.1 : Int)) (.int (e.2.1 : Int)) = some (.int ((M.1 + e.2.1 : Nat) : Int)) := by rw [add_ii, Int.natCast_add]
      have ev : frz (D.lst true [.int ((M.1 + e.2.1 : Nat) : Int), .int ((e.2.2 ||| 2 ^ k : Nat) : Int)]) = vP true (M.1 + e.2.1, e.2.2 ||| 2 ^ k) := rfl
      have fv : frz (vP true M) = vP true M := frz_vP
      have iv : isImm (vP true M) = true := imm_vP
      have s2 : (2 : Nat) ≤ sizeLine := by decide
      have isd : isDct (laD true true acc) = true := rfl
      have m1 := mo_sl1 (c := e.1) (a := a) (by omega)
      have m2 := mo_sl2 (c := e.1) (a := a) (by omega)
      have m3 := mo_a1 (c := e.1) (a := a) (by omega)
      have m4 := mo_a2 (c := e.1) (a := a) (by omega) (by omega)
      have j1 := @imm_kD (e.1.take a)
      have j2 := @imm_kD (e.1.drop (a + 1))
      have j3 := @imm_kD (e.1.take a ++ [e.1.getD a 0 + 1])
      have j4 := @imm_kD (moreE e.1 a)
      have f4 := @frz_kD (moreE e.1 a)
      have cge : (e.1.getD a 0 : Int) = ((cnR R e.2.2 l : Nat) : Int) := by rw [cg]
      rw [cge] at m3
      refine ⟨some (.int (a : Int)), some (ownD false (plR R l)), some (.int (k : Int)), some (kD (moreE e.1 a)), some (vP true M), ?_⟩
      rw [ap_step]; unfold l__law_counted_1
      show _ = RS.nx [_, _, _, _, _, _, _, some (laD true true (addE e acc (a, k))), _, _, _, _, _, _, _, _, _, _]
      generalize laD true true (addE e acc (a, k)) = L2 at *
      generalize laD true true acc = L1 at *
      generalize ((Bs.getD k 0 - (Bs.getD k 0 &&& e.2.2) : Nat) : Int) = Z1 at *
      generalize ((e.2.2 ||| 2 ^ k : Nat) : Int) = P3 at *
      generalize ((2 ^ k : Nat) : Int) = Z2 at *
      generalize (Bs.getD k 0 : Int) = Z3 at *
      generalize ((M.1 + e.2.1 : Nat) : Int) = P4 at *
      generalize ownD true (plR R l ++ [0]) = PA at *
      generalize ownD false (plR R l) = PL at *
      generalize ownD o2 Bs = BB at *
      generalize kD (e.1.take a ++ [e.1.getD a 0 + 1]) = K3 at *
      generalize kD (e.1.take a) = K1 at *
      generalize kD (e.1.drop (a + 1)) = K2 at *
      generalize kD (moreE e.1 a) = K4 at *
      generalize kD e.1 = K0 at *
      generalize vP true M = VM at *
      generalize vP true (M.1 + e.2.1, e.2.2 ||| 2 ^ k) = VN at *
      simp [-band_ii, -shl_ii, -eq_ii, -bor_ii, -add_ii, -ix_l, -frz_lst, s1, n1, n2, i0, lm, c', fo, ik, ib, q1, q2, q3, q4, adt, adf, ap_dget, dctO, getR, putR, isd, g2, pt', ix, eb, ea, ev, fv, iv, s2, m1, m2, m3, m4, j1, j2, j3, j4, f4, fk, ik0]
  · have c' : ¬ ((cnR R e.2.2 l : Nat) : Int) < ((plR R l).length : Int) := by omega
    have hn : nxP R e.2.2 l = none := by
      unfold nxP
      rw [List.getElem?_eq_none_iff]; omega
    rw [x0 hn]
    refine ⟨some (.int (a : Int)), some (ownD false (plR R l)), some (.int (k : Int)), v14, v15, ?_⟩
    rw [ap_step]; unfold l__law_counted_1
    show _ = RS.nx [_, _, _, _, _, _, _, some (laD true true acc), _, _, _, _, _, _, _, _, _, _]
    generalize laD true true acc = L1 at *
    generalize ownD true (plR R l ++ [0]) = PA at *
    generalize ownD false (plR R l) = PL at *
    generalize ownD o2 Bs = BB at *
    generalize kD e.1 = K0 at *
    simp [-ix_l, s1, i0, lm, c', fo, ik, adt, adf]
theorem lw_1s (H : House h L) (hR : RowOk L R) (h32 : R.length ≤ 32) (hne : 1 ≤ R.length) {Bs : List Nat} (N : NeedOk L R Bs) {i : Nat} {e : En} (C : Cl L R e.2.2) (hc : cdB R.length e.2.2 = i) (hk : e.1 = cnsR L R e.2.2) {acc : List En} (I : PInv L R (i + 1) acc) {o2 : Bool}
    {v0 v1 v3 v4 v5 v6 v11 v12 v13 v14 v15 v16 v17 : Option D} : ∃ v11' v12' v13' v14' v15',
    loopS (stepS (gT 2 (gsC (gN 11) (gsC (gN 12) gsN))) l__law_counted_1) ((List.range L.length).map fun a : Nat => D.tup [.int (a : Int), ownD false (plR R (L.getD a (0, [])).1)]) [v0, v1, some (ownD o2 Bs), v3, v4, v5, v6, some (laD true true acc), some (kD e.1), some (.int (e.2.1 : Int)), some (.int (e.2.2 : Int)), v11, v12, v13, v14, v15, v16, v17]
      = .nx [v0, v1, some (ownD o2 Bs), v3, v4, v5, v6, some (laD true true (spreadE Bs L R acc e)), some (kD e.1), some (.int (e.2.1 : Int)), some (.int (e.2.2 : Int)), v11', v12', v13', v14', v15', v16, v17] := by
  obtain ⟨ρ', lp, w11, w12, w13, w14, w15, e0, _⟩ := loopM (step := stepS (gT 2 (gsC (gN 11) (gsC (gN 12) gsN))) l__law_counted_1) (f := fun a : Nat => D.tup [.int (a : Int), ownD false (plR R (L.getD a (0, [])).1)]) (xs := List.range L.length) (ρ := [v0, v1, some (ownD o2 Bs), v3, v4, v5, v6, some (laD true true acc), some (kD e.1), some (.int (e.2.1 : Int)), some (.int (e.2.2 : Int)), v11, v12, v13, v14, v15, v16, v17])
    (fun j ρ => ∃ (w11 w12 w13 w14 w15 : Option D), ρ = [v0, v1, some (ownD o2 Bs), v3, v4, v5, v6, some (laD true true (((List.range j).filterMap (nxtA Bs L R e.2.2)).foldl (addE e) acc)), some (kD e.1), some (.int (e.2.1 : Int)), some (.int (e.2.2 : Int)), w11, w12, w13, w14, w15, v16, v17] ∧ j ≤ L.length)
    ⟨v11, v12, v13, v14, v15, rfl, Nat.zero_le _⟩ (by
      rintro j x ρ hj ⟨w11, w12, w13, w14, w15, rfl, _⟩
      have hjl := (List.getElem?_eq_some_iff.mp hj).1
      rw [List.length_range] at hjl
      rw [List.getElem?_range hjl] at hj
      cases hj
      have I' := (spread_inv H hR C hc hk ((List.range j).filterMap (nxtA Bs L R e.2.2)) acc (fun y hy => by
        refine nxt_ok H hR N C ?_
        obtain ⟨a, ha, ea⟩ := List.mem_filterMap.mp hy
        exact List.mem_filterMap.mpr ⟨a, List.mem_range.mpr (Nat.lt_trans (List.mem_range.mp ha) hjl), ea⟩) I).1
      obtain ⟨_, _, _, _, _, e1⟩ := lw_1 H hR h32 hne N C hc hk I' hjl (o2 := o2) (v0 := v0) (v1 := v1) (v3 := v3) (v4 := v4) (v5 := v5) (v6 := v6) (v11 := w11) (v12 := w12) (v13 := w13) (v14 := w14) (v15 := w15) (v16 := v16) (v17 := v17)
      exact ⟨_, e1, _, _, _, _, _, by rw [fm_succ, List.foldl_append], hjl⟩)
  subst e0
  rw [List.length_range] at lp
  exact ⟨w11, w12, w13, w14, w15, lp⟩
theorem lw_2 (H : House h L) (hR : RowOk L R) (h32 : R.length ≤ 32) (hne : 1 ≤ R.length) {Bs : List Nat} (N : NeedOk L R Bs) {i : Nat} {lay : List En} (Il : PInv L R i lay) {e : En} (he : e ∈ lay) {acc : List En} (I : PInv L R (i + 1) acc) {o2 o3 : Bool}
    {v0 v1 v5 v6 v8 v9 v10 v11 v12 v13 v14 v15 v16 v17 : Option D} : ∃ v8' v9' v10' v11' v12' v13' v14' v15',
    stepS (gN 8) l__law_counted_2 (keyT (kK e.1)) [v0, v1, some (ownD o2 Bs), some (plD o3 L R), some (laD true false lay), v5, v6, some (laD true true acc), v8, v9, v10, v11, v12, v13, v14, v15, v16, v17]
      = .nx [v0, v1, some (ownD o2 Bs), some (plD false L R), some (laD true false lay), v5, v6, some (laD true true (spreadE Bs L R acc e)), some v8', v9', v10', v11', v12', v13', v14', v15', v16, v17] ∧ isImm v8' = true := by
  obtain ⟨C, hc, hk⟩ := Il.en e he
  have ix := la_ix (w := true) (o := false) Il.nd he
  obtain ⟨w11, w12, w13, w14, w15, lp⟩ := lw_1s H hR h32 hne N C hc hk I (o2 := o2) (v0 := v0) (v1 := v1) (v3 := some (plD false L R)) (v4 := some (laD true false lay)) (v5 := v5) (v6 := v6) (v11 := v11) (v12 := v12) (v13 := v13) (v14 := v14) (v15 := v15) (v16 := v16) (v17 := v17)
  refine ⟨kD e.1, some (.int (e.2.1 : Int)), some (.int (e.2.2 : Int)), w11, w12, w13, w14, w15, ?_, imm_kD⟩
  rw [ap_step, keyT_kK]; unfold l__law_counted_2
  have fk := @frz_kD e.1
  have ik := @imm_kD e.1
  have fp : frz (plD o3 L R) = plD false L R := frz_pl
  have gt : gTL 2 (gsC (gN 9) (gsC (gN 10) gsN)) (vP true e.2) [v0, v1, some (ownD o2 Bs), some (plD o3 L R), some (laD true false lay), v5, v6, some (laD true true acc), some (kD e.1), v9, v10, v11, v12, v13, v14, v15, v16, v17] = some [v0, v1, some (ownD o2 Bs), some (plD o3 L R), some (laD true false lay), v5, v6, some (laD true true acc), some (kD e.1), some (.int (e.2.1 : Int)), some (.int (e.2.2 : Int)), v11, v12, v13, v14, v15, v16, v17] := by
    unfold vP natD; simp
  have iv : isImm (vP true e.2) = true := imm_vP
  have en := pl_enum (o := false) (L := L) (R := R)
  generalize ((List.range L.length).map fun a : Nat => D.tup [.int (a : Int), ownD false (plR R (L.getD a (0, [])).1)]) = EN at *
  generalize laD true true (spreadE Bs L R acc e) = L2 at *
  generalize laD true true acc = L1 at *
  generalize laD true false lay = L0 at *
  generalize plD false L R = P1 at *
  generalize plD o3 L R = P2 at *
  generalize ownD o2 Bs = B2 at *
  generalize kD e.1 = K0 at *
  generalize vP true e.2 = VV at *
  simp [ix, gt, fk, ik, fp, lp, iv, en]
theorem lw_2s (H : House h L) (hR : RowOk L R) (h32 : R.length ≤ 32) (hne : 1 ≤ R.length) {Bs : List Nat} (N : NeedOk L R Bs) {i : Nat} {lay : List En} (Il : PInv L R i lay) {o2 o3 : Bool}
    {v0 v1 v5 v6 v8 v9 v10 v11 v12 v13 v14 v15 v16 v17 : Option D} (i8 : immO (some v8) = true) : ∃ o3' v8' v9' v10' v11' v12' v13' v14' v15',
    loopS (stepS (gN 8) l__law_counted_2) (lay.map fun e => keyT (kK e.1)) [v0, v1, some (ownD o2 Bs), some (plD o3 L R), some (laD true false lay), v5, v6, some (laD true true []), v8, v9, v10, v11, v12, v13, v14, v15, v16, v17]
      = .nx [v0, v1, some (ownD o2 Bs), some (plD o3' L R), some (laD true false lay), v5, v6, some (laD true true (stepE Bs L R lay)), v8', v9', v10', v11', v12', v13', v14', v15', v16, v17] ∧ immO (some v8') = true := by
  obtain ⟨ρ', lp, acc', o3', w8, w9, w10, w11, w12, w13, w14, w15, e0, i8', _, _, ef⟩ := loopL (step := stepS (gN 8) l__law_counted_2) (f := fun e : En => keyT (kK e.1))
    (fun xs ρ => ∃ (acc' : List En) (o3' : Bool) (w8 w9 w10 w11 w12 w13 w14 w15 : Option D), ρ = [v0, v1, some (ownD o2 Bs), some (plD o3' L R), some (laD true false lay), v5, v6, some (laD true true acc'), w8, w9, w10, w11, w12, w13, w14, w15, v16, v17] ∧ immO (some w8) = true ∧ PInv L R (i + 1) acc' ∧ (∀ x ∈ xs, x ∈ lay) ∧ xs.foldl (spreadE Bs L R) acc' = stepE Bs L R lay)
    lay _ ⟨[], o3, v8, v9, v10, v11, v12, v13, v14, v15, rfl, i8, PInv.nil, fun _ z => z, rfl⟩ (by
      rintro x xs ρ ⟨acc', o3', w8, w9, w10, w11, w12, w13, w14, w15, rfl, _, I', hx, ef⟩
      have hm := hx x List.mem_cons_self
      obtain ⟨_, _, _, _, _, _, _, _, e1, iv⟩ := lw_2 H hR h32 hne N Il hm I' (o2 := o2) (o3 := o3') (v0 := v0) (v1 := v1) (v5 := v5) (v6 := v6) (v8 := w8) (v9 := w9) (v10 := w10) (v11 := w11) (v12 := w12) (v13 := w13) (v14 := w14) (v15 := w15) (v16 := v16) (v17 := v17)
      obtain ⟨C, hc, hk⟩ := Il.en x hm
      exact ⟨_, e1, _, _, _, _, _, _, _, _, _, _, rfl, iv, (spread_inv H hR C hc hk (nextsB Bs L R x.2.2) acc' (fun y hy => nxt_ok H hR N C hy) I').1, fun y hy => hx y (List.mem_cons_of_mem _ hy), ef⟩)
  subst e0
  have ef : acc' = stepE Bs L R lay := ef
  rw [← ef]
  exact ⟨o3', w8, w9, w10, w11, w12, w13, w14, w15, lp, i8'⟩
theorem lw_3 (H : House h L) (hR : RowOk L R) (h32 : R.length ≤ 32) (hne : 1 ≤ R.length) {Bs : List Nat} (N : NeedOk L R Bs) {j : Nat} {o o2 o3 : Bool} {d : D}
    {v0 v1 v6 v7 v8 v9 v10 v11 v12 v13 v14 v15 v16 v17 : Option D} (i8 : immO (some v8) = true) : ∃ o3' v6' v7' v8' v9' v10' v11' v12' v13' v14' v15',
    stepS (gN 6) l__law_counted_3 d [v0, v1, some (ownD o2 Bs), some (plD o3 L R), some (laD true o (layE Bs L R j)), some (.int (pastsE Bs L R j : Int)), v6, v7, v8, v9, v10, v11, v12, v13, v14, v15, v16, v17]
      = .nx [v0, v1, some (ownD o2 Bs), some (plD o3' L R), some (laD true false (layE Bs L R (j + 1))), some (.int (pastsE Bs L R (j + 1) : Int)), v6', v7', v8', v9', v10', v11', v12', v13', v14', v15', v16, v17] ∧ immO (some v8') = true := by
  obtain ⟨Il, _⟩ := lay_inv H hR N j
  obtain ⟨o3', w8, w9, w10, w11, w12, w13, w14, w15, lp, i8'⟩ := lw_2s H hR h32 hne N Il (o2 := o2) (o3 := o3) (v0 := v0) (v1 := v1) (v5 := some (.int (pastsE Bs L R j : Int))) (v6 := some d) (v8 := v8) (v9 := v9) (v10 := v10) (v11 := v11) (v12 := v12) (v13 := v13) (v14 := v14) (v15 := v15) (v16 := v16) (v17 := v17) i8
  refine ⟨o3', some d, some (laD true false (layE Bs L R (j + 1))), w8, w9, w10, w11, w12, w13, w14, w15, ?_, i8'⟩
  have fk : ∀ ρ : Ev, _ := fun ρ => la_forK (w := true) (o := o) (lay := layE Bs L R j) (i := 4) (t := gN 8) (g := l__law_counted_2) (ρ := ρ)
  have ll : gLenT [laD true false (layE Bs L R (j + 1))] = some (.int ((layE Bs L R (j + 1)).length : Int)) := la_len
  have e0 : D.dcT true [] [] = laD true true [] := rfl
  have e2 : layE Bs L R (j + 1) = stepE Bs L R (layE Bs L R j) := rfl
  rw [← e2] at lp
  have f7 : frz (laD true true (layE Bs L R (j + 1))) = laD true false (layE Bs L R (j + 1)) := frz_la
  have f7' : frz (laD true false (layE Bs L R (j + 1))) = laD true false (layE Bs L R (j + 1)) := frz_la
  have ep : (pastsE Bs L R j : Int) + ((layE Bs L R (j + 1)).length : Int) = ((pastsE Bs L R (j + 1) : Nat) : Int) := by
    show _ = ((pastsE Bs L R j + (layE Bs L R (j + 1)).length : Nat) : Int)
    rw [Int.natCast_add]
  rw [ap_step]; unfold l__law_counted_3
  generalize (layE Bs L R j).map (fun e => keyT (kK e.1)) = KS at *
  generalize (pastsE Bs L R (j + 1) : Int) = PP at *
  generalize ((layE Bs L R (j + 1)).length : Int) = LL at *
  generalize laD true true (layE Bs L R (j + 1)) = L2 at *
  generalize laD true false (layE Bs L R (j + 1)) = L3 at *
  generalize laD true o (layE Bs L R j) = L1 at *
  generalize laD true false (layE Bs L R j) = L0 at *
  generalize plD o3 L R = P1 at *
  generalize plD o3' L R = P2 at *
  generalize ownD o2 Bs = B1 at *
  simp [e0, fk, lp, f7, f7', ll, ep]
theorem need_lc (H : House h L) (hR : RowOk L R) (h32 : R.length ≤ 32) {Bs : List Nat} (N : NeedOk L R Bs) {l : Ev} (hl : l = List.replicate 16 none) : fLc (fIt itemsL (fCall 2 m__law_below (fCons (fVar 0) (fCons (fVar 1) fNil)))) (gN 12) fYes (fOpN gSum (fCons (fLc (fIt itemsL (fVar 12)) (gN 13) fYes (fI (vOp2 gShl (vK (.int 1)) (vVar 13))) [13]) fNil)) [12] (some (houD false h L) :: some (.str (rowS R)) :: l)
    = .ok (ownD true Bs) (some (houD false h L) :: some (.str (rowS R)) :: l) := by
  subst hl
  simp only [List.replicate]
  obtain ⟨Ms, t, lM, hM⟩ := below_spec3 H hR (R := R) (by omega)
  have fH : frz (houD false h L) = houD false h L := by simp
  have itM : itemsL (.lst true (Ms.map minD)) = some (Ms.map fun m => ownD false m.2) := by
    rw [items_l, frzs_mapf (f := minD) (g := fun m => ownD false m.2) fun m _ => by unfold minD ownD; rw [frz_lst, frzs_mapf (f := natD) (g := natD) fun _ _ => rfl]]
  have sM : Ms.length ≤ sizeLine := by rw [lM]; exact Nat.le_trans h32 (by decide)
  have em : ownD true Bs = .lst true (Ms.map fun m => natD ((m.2.map fun k => 2 ^ k).sum)) := by
    unfold ownD
    congr 1
    apply List.ext_getElem?
    intro j
    rw [List.getElem?_map, List.getElem?_map]
    by_cases hj : j < R.length
    · obtain ⟨m, hm⟩ : ∃ m, Ms[j]? = some m := ⟨_, List.getElem?_eq_getElem (by omega)⟩
      obtain ⟨h1, _, h3⟩ := hM j m hm
      have := need_sum N hj h1 h3
      rw [hm]
      have hb : Bs[j]? = some (Bs.getD j 0) := by rw [List.getD_eq_getElem?_getD, List.getElem?_eq_getElem (by rw [N.len]; exact hj)]; rfl
      rw [hb, Option.map_some, Option.map_some, ← this]
    · rw [List.getElem?_eq_none (by rw [N.len]; omega), List.getElem?_eq_none (by omega)]; rfl
  rw [em]
  refine lc_all (xs := Ms) (g := fun m => ownD false m.2) (e := fun m => natD ((m.2.map fun k => 2 ^ k).sum)) ?_ ?_ sM fun m hm => ?_
  · generalize houD false h L = HH at *
    generalize D.lst true (Ms.map minD) = ML at *
    simp [fH, t, itM]
  · simp
  · obtain ⟨j, hj⟩ := List.getElem?_of_mem hm
    obtain ⟨h1, h2, _⟩ := hM j m hj
    have im := own_items (o := false) (xs := m.2)
    have fo : frz (ownD false m.2) = ownD false m.2 := frz_own
    have lc : fLc (fIt itemsL (fVar 12)) (gN 13) fYes (fI (vOp2 gShl (vK (.int 1)) (vVar 13))) [13] [some (houD false h L), some (.str (rowS R)), none, none, none, none, none, none, none, none, none, none, some (ownD false m.2), none, none, none, none, none]
        = .ok (.lst true (m.2.map fun k => natD (2 ^ k))) [some (houD false h L), some (.str (rowS R)), none, none, none, none, none, none, none, none, none, none, some (ownD false m.2), none, none, none, none, none] := by
      refine lc_all (xs := m.2) (g := natD) (e := fun k => natD (2 ^ k)) ?_ (by simp) (Nat.le_trans h2 (Nat.le_trans h32 (by decide))) fun k hk => ?_
      · generalize houD false h L = HH at *
        generalize ownD false m.2 = OM at *
        simp [im, fo]
      · have hk' : k ≤ j := ((h1 k).mp hk).le
        have hjl := (List.getElem?_eq_some_iff.mp hj).1
        have es := shl_1 (p := k) (by omega)
        generalize houD false h L = HH at *
        generalize ownD false m.2 = OM at *
        refine ⟨[some HH, some (.str (rowS R)), none, none, none, none, none, none, none, none, none, none, some OM, some (natD k), none, none, none, none], by simp, [some HH, some (.str (rowS R)), none, none, none, none, none, none, none, none, none, none, some OM, some (natD k), none, none, none, none], ?_, by simp⟩
        unfold natD
        generalize ((2 ^ k : Nat) : Int) = Z at *
        simp [-shl_ii, es]
    have sm : gSum [.lst true (m.2.map fun k => natD (2 ^ k))] = some (natD ((m.2.map fun k => 2 ^ k).sum)) := by
      have := sum_nats (o := true) (ms := m.2.map fun k => 2 ^ k)
      rw [List.map_map] at this
      exact this
    refine ⟨[some (houD false h L), some (.str (rowS R)), none, none, none, none, none, none, none, none, none, none, some (ownD false m.2), none, none, none, none, none], by simp, [some (houD false h L), some (.str (rowS R)), none, none, none, none, none, none, none, none, none, none, some (ownD false m.2), none, none, none, none, none], ?_, by simp⟩
    generalize houD false h L = HH at *
    generalize ownD false m.2 = OM at *
    generalize natD ((m.2.map fun k => 2 ^ k).sum) = SM at *
    generalize D.lst true (m.2.map fun k => natD (2 ^ k)) = LM at *
    simp [lc, sm]
theorem lpl_lc (H : House h L) (hR : RowOk L R) (h32 : R.length ≤ 32) {v2 : Option D} {l : Ev} (hl : l = List.replicate 15 none) : fLc (fIt itemsL (fI (vOp2 gIx (vVar 0) (vK (.int 1))))) (gT 2 (gsC (gN 16) (gsC (gN 17) gsN))) fYes (fLc (fItN rng1 (fCons (fI (vOpN gLen (vCons (vVar 1) vNil))) fNil)) (gN 13) (fTv (vOp2 gEq (vOp2 gIx (vVar 1) (vVar 13)) (vVar 16))) (fVar 13) [13]) [16, 17] (some (houD false h L) :: some (.str (rowS R)) :: v2 :: l)
    = .ok (plD true L R) (some (houD false h L) :: some (.str (rowS R)) :: v2 :: l) := by
  subst hl
  simp only [List.replicate]
  have l6 := H.l6
  have hix : gIx (houD false h L) (.int 1) = some (.lst false (L.map (entD false))) := hou_ix1
  have s1 : R.length ≤ sizeLine := Nat.le_trans h32 (by decide)
  have s2 : L.length ≤ sizeLine := Nat.le_trans l6 (by decide)
  have fe : frzs (L.map (entD false)) = L.map (entD false) := frzs_mapf fun _ _ => by unfold entD; simp [frz_own]
  have ie : isImms (L.map (entD false)) = true := imms_map fun _ _ => imm_ent
  have fl : (frz (D.lst false (L.map (entD false)))) = .lst false (L.map (entD false)) := by rw [frz_lst, fe]
  have it : itemsL (D.lst false (L.map (entD false))) = some (L.map (entD false)) := by rw [items_l, fe]
  have rn := rng1_n (n := R.length) (by omega)
  have inner : ∀ (e : Nat × List Nat), fLc (fItN rng1 (fCons (fI (vOpN gLen (vCons (vVar 1) vNil))) fNil)) (gN 13) (fTv (vOp2 gEq (vOp2 gIx (vVar 1) (vVar 13)) (vVar 16))) (fVar 13) [13] [some (houD false h L), some (.str (rowS R)), v2, none, none, none, none, none, none, none, none, none, none, none, none, none, some (sgD e.1), some (ownD false e.2)]
      = .ok (ownD true (plR R e.1)) [some (houD false h L), some (.str (rowS R)), v2, none, none, none, none, none, none, none, none, none, none, none, none, none, some (sgD e.1), some (ownD false e.2)] := fun e => by
    unfold ownD plR
    refine lc_map (xs := List.range R.length) (g := fun k : Nat => .int (k : Int)) (e := natD) (p := fun j : Nat => decide (lt R j = e.1)) ?_ (by simp) (by rw [List.length_range]; exact s1) fun k hk => ?_
    · simp [rn, s1]
    · have q : gEq (sgD (lt R k)) (sgD e.1) = some (.bl (decide (lt R k = e.1))) := eq_sgD
      have rx := row_ix (R := R) (List.mem_range.mp hk) (by omega)
      generalize houD false h L = HH at *
      generalize D.lst false (e.2.map natD) = OE at *
      refine ⟨[some HH, some (.str (rowS R)), v2, none, none, none, none, none, none, none, none, none, none, some (.int (k : Int)), none, none, some (sgD e.1), some OE], by simp, [some HH, some (.str (rowS R)), v2, none, none, none, none, none, none, none, none, none, none, some (.int (k : Int)), none, none, some (sgD e.1), some OE], by simp [rx, q], fun _ => ⟨[some HH, some (.str (rowS R)), v2, none, none, none, none, none, none, none, none, none, none, some (.int (k : Int)), none, none, some (sgD e.1), some OE], by simp [natD], by simp⟩, fun _ => by simp⟩
  unfold plD plL
  rw [List.map_map]
  refine lc_all (xs := L) (g := entD false) ?_ (by simp) s2 fun e _ => ?_
  · generalize L.map (entD false) = LE at *
    generalize houD false h L = HH at *
    simp [-ix_t, hix, ie, fe, fl, it]
  · refine ⟨[some (houD false h L), some (.str (rowS R)), v2, none, none, none, none, none, none, none, none, none, none, none, none, none, some (sgD e.1), some (ownD false e.2)], ?_, _, inner e, ?_⟩
    · simp [entD]; rfl
    · simp
theorem lawcounted_spec (H : House h L) (hR : RowOk L R) (h32 : R.length ≤ 32) {Bs : List Nat} (N : NeedOk L R Bs) : ∃ o, m__law_counted [houD false h L, .str (rowS R)] = .rt (.tup [.int (sumE (layE Bs L R R.length) : Int), .int (pastsE Bs L R R.length : Int)]) o := by
  have h6 := H.l6
  obtain ⟨ρ', lp, o, o3, v6, v7, v8, v9, v10, v11, v12, v13, v14, v15, e, i8⟩ := loopM (step := stepS (gN 6) l__law_counted_3) (f := sgD) (xs := R) (ρ := [some (houD false h L), some (.str (rowS R)), some (ownD true Bs), some (plD false L R), some (laD true true (layE Bs L R 0)), some (.int 1), none, none, none, none, none, none, none, none, none, none, none, none])
    (fun j ρ => ∃ (o o3 : Bool) (v6 v7 v8 v9 v10 v11 v12 v13 v14 v15 : Option D), ρ = [some (houD false h L), some (.str (rowS R)), some (ownD true Bs), some (plD o3 L R), some (laD true o (layE Bs L R j)), some (.int (pastsE Bs L R j : Int)), v6, v7, v8, v9, v10, v11, v12, v13, v14, v15, none, none] ∧ immO (some v8) = true)
    ⟨true, false, none, none, none, none, none, none, none, none, none, none, rfl, rfl⟩ (by
      rintro j x ρ hj ⟨o, o3, v6, v7, v8, v9, v10, v11, v12, v13, v14, v15, rfl, i8⟩
      have hjl := (List.getElem?_eq_some_iff.mp hj).1
      obtain ⟨_, _, _, _, _, _, _, _, _, _, _, e, i8'⟩ := lw_3 H hR h32 (by omega) N (j := j) (o := o) (o2 := true) (o3 := o3) (d := sgD x) (v0 := some (houD false h L)) (v1 := some (.str (rowS R))) (v6 := v6) (v7 := v7) (v8 := v8) (v9 := v9) (v10 := v10) (v11 := v11) (v12 := v12) (v13 := v13) (v14 := v14) (v15 := v15) (v16 := none) (v17 := none) i8
      exact ⟨_, e, _, _, _, _, _, _, _, _, _, _, _, _, rfl, i8'⟩)
  subst e
  have sl := sum_lc H hR h32 N (n := R.length) (w := true) (o := o) (ρ := [some (houD false h L), some (.str (rowS R)), some (ownD true Bs), some (plD o3 L R), some (laD true o (layE Bs L R R.length)), some (.int (pastsE Bs L R R.length : Int)), v6, v7, v8, v9, v10, v11, v12, v13, v14, v15, none, none]) rfl (by simp) (by simpa using i8)
  have sn := sum_nats (o := true) (ms := (layE Bs L R R.length).map fun e => e.2.1)
  have its : itemsS (.str (rowS R)) = some (R.map sgD) := by
    show some (strD (rowS R)) = _
    rw [strD_row]
  have itp : itemsL (plD false L R) = some ((plL L R).map (ownD false)) := pl_items
  have fp : frz (plD true L R) = plD false L R := frz_pl
  have l6 : (plL L R).length ≤ sizeLine := by unfold plL; rw [List.length_map]; exact Nat.le_trans h6 (by decide)
  have lcz : fLc (fIt itemsL (fVar 3)) (gN 12) fYes (fK (.int 0)) [12] [some (houD false h L), some (.str (rowS R)), some (ownD true Bs), some (plD true L R), none, none, none, none, none, none, none, none, none, none, none, none, none, none]
      = .ok (.lst true ((plL L R).map fun _ => D.int 0)) [some (houD false h L), some (.str (rowS R)), some (ownD true Bs), some (plD false L R), none, none, none, none, none, none, none, none, none, none, none, none, none, none] := by
    refine lc_all (xs := plL L R) (g := ownD false) (e := fun _ => .int 0) ?_ (by simp) l6 fun x _ => ?_
    · generalize plD true L R = P1 at *
      generalize plD false L R = P2 at *
      simp [itp, fp]
    · exact ⟨[some (houD false h L), some (.str (rowS R)), some (ownD true Bs), some (plD false L R), none, none, none, none, none, none, none, none, some (ownD false x), none, none, none, none, none], by simp, [some (houD false h L), some (.str (rowS R)), some (ownD true Bs), some (plD false L R), none, none, none, none, none, none, none, none, some (ownD false x), none, none, none, none, none], by simp, by simp⟩
  have lz : (plL L R).map (fun _ => D.int 0) = (L.map fun _ => 0).map natD := by unfold plL; rw [List.map_map, List.map_map]; rfl
  rw [lz] at lcz
  have gt : gTuple [.lst true ((L.map fun _ => 0).map natD)] = some (kD (L.map fun _ => 0)) := by
    show (if isImms ((L.map fun _ => 0).map natD) = true then _ else _) = _
    rw [if_pos imms_nats]; rfl
  have kt := keysT_kD (x := L.map fun _ => 0)
  have la0 : laD true true (layE Bs L R 0) = .dcT true [kK (L.map fun _ => 0)] [.lst false [.int 1, .int 0]] := rfl
  have fH : frz (houD false h L) = houD false h L := by simp
  have iK := @imm_kD (L.map fun _ => 0)
  have fK := @frz_kD (L.map fun _ => 0)
  have s2 : (2 : Nat) ≤ sizeLine := by decide
  have es : ((((layE Bs L R R.length).map fun e => e.2.1).sum : Nat) : Int) = (sumE (layE Bs L R R.length) : Int) := rfl
  rw [es] at sn
  have nl := need_lc H hR h32 N (l := List.replicate 16 none) rfl
  have pl := lpl_lc H hR h32 (v2 := some (ownD true Bs)) (l := List.replicate 15 none) rfl
  unfold m__law_counted; rw [semOf_ap]; unfold b__law_counted
  refine ⟨[none, none], ?_⟩
  simp only [List.set_cons_succ, List.set_cons_zero] at sl
  simp only [List.replicate] at nl pl
  rw [la0] at lp
  generalize ((layE Bs L R R.length).map fun e => e.2.1).map natD = SS at *
  generalize laD true o (layE Bs L R R.length) = LN at *
  generalize laD true false (layE Bs L R R.length) = LF at *
  generalize (sumE (layE Bs L R R.length) : Int) = SE at *
  generalize (pastsE Bs L R R.length : Int) = PE at *
  generalize houD false h L = HH at *
  generalize plD true L R = P1 at *
  generalize plD false L R = P2 at *
  generalize plD o3 L R = P3 at *
  generalize ownD true Bs = B1 at *
  generalize kK (L.map fun _ => 0) = KK at *
  generalize kD (L.map fun _ => 0) = KD at *
  generalize (L.map fun _ => 0).map natD = LZ at *
  generalize R.map sgD = RS at *
  simp [fH, nl, pl, lcz, gt, kt, fK, iK, s2, its, lp, sl, sn]
def cutB (R : List Nat) (b : Nat) : List Nat := ((List.range R.length).filter b.testBit).map (lt R)
def kidW (Bs : List Nat) (L : List (Nat × List Nat)) (R : List Nat) (w : List Nat × Nat) : List (List Nat × Nat) := (nextsB Bs L R w.2).map fun ap => (w.1 ++ [lt R ap.2], w.2 ||| 2 ^ ap.2)
def wdE (Bs : List Nat) (L : List (Nat × List Nat)) (R : List Nat) : Nat → List (List Nat × Nat)
  | 0 => [([], 0)]
  | i + 1 => (wdE Bs L R i).flatMap (kidW Bs L R)
theorem filter_last {p : Nat} {q q' : Nat → Bool} (hq : ∀ i, q' i = (q i || decide (p = i))) (hp : q p = false) : ∀ {l : List Nat}, l.Pairwise (· < ·) → p ∈ l → (∀ i ∈ l, q i = true → i < p) → l.filter q' = l.filter q ++ [p]
  | [], _, h, _ => by cases h
  | x :: l, hl, hm, hb => by
    rw [List.pairwise_cons] at hl
    by_cases c : p = x
    · subst c
      have n1 : ∀ i ∈ l, q i = false := fun i hi => by
        cases z : q i with
        | false => rfl
        | true => have := hb i (List.mem_cons_of_mem _ hi) z; have := hl.1 i hi; omega
      have e1 : l.filter q = [] := List.filter_eq_nil_iff.mpr fun i hi => by rw [n1 i hi]; simp
      have e2 : l.filter q' = [] := List.filter_eq_nil_iff.mpr fun i hi => by
        have := hl.1 i hi
        rw [hq, n1 i hi, decide_eq_false (by omega)]; simp
      rw [List.filter_cons, List.filter_cons, hq p, hp, e1, e2]; simp
    · have hm' : p ∈ l := by
        rcases List.mem_cons.mp hm with z | z
        · exact (c z).elim
        · exact z
      have ih := filter_last hq hp hl.2 hm' fun i hi => hb i (List.mem_cons_of_mem _ hi)
      rw [List.filter_cons, List.filter_cons, hq x, decide_eq_false c, Bool.or_false, ih]
      cases q x <;> rfl
theorem see_cut {b x : Nat} : see L x (cutB R b) = ((List.range R.length).filter fun j => b.testBit j && decide (x ∈ ow L (lt R j))).map (lt R) := by
  unfold cutB
  rw [see_map, List.filter_filter]
  congr 2
  funext j
  rw [Bool.and_comm]
theorem see_snoc {w : List Nat} {l x : Nat} : see L x (w ++ [l]) = see L x w ++ if x ∈ ow L l then [l] else [] := by
  rw [see_app]
  congr 1
  unfold see
  rw [List.filter_cons, List.filter_nil]
  by_cases c : x ∈ ow L l <;> simp [c]
/-- a deed behind all that hang with it -/
theorem see_add {b p x : Nat} (hp : p < R.length) (out : b.testBit p = false) (top : ∀ q, b.testBit q = true → p < q → ¬ Hang L (lt R p) (lt R q)) : see L x (cutB R (b ||| 2 ^ p)) = see L x (cutB R b) ++ if x ∈ ow L (lt R p) then [lt R p] else [] := by
  rw [see_cut, see_cut]
  by_cases c : x ∈ ow L (lt R p)
  · rw [if_pos c]
    have := filter_last (p := p) (q := fun j => b.testBit j && decide (x ∈ ow L (lt R j))) (q' := fun j => (b ||| 2 ^ p).testBit j && decide (x ∈ ow L (lt R j))) (fun i => by
      show ((b ||| 2 ^ p).testBit i && _) = ((b.testBit i && _) || _)
      rw [bit_or_pow]
      by_cases z : p = i
      · subst z; simp [c]
      · simp [z]) (by show (b.testBit p && _) = false; rw [out]; rfl) List.pairwise_lt_range (List.mem_range.mpr hp) (fun i _ hi => by
      have hi : (b.testBit i && decide (x ∈ ow L (lt R i))) = true := hi
      rw [Bool.and_eq_true, decide_eq_true_eq] at hi
      by_cases z : i < p
      · exact z
      · exfalso
        by_cases y : i = p
        · rw [y, out] at hi; cases hi.1
        · exact top i hi.1 (by omega) ⟨x, c, hi.2⟩)
    rw [this, List.map_append]; rfl
  · rw [if_neg c, List.append_nil]
    congr 1
    refine List.filter_congr fun j _ => ?_
    rw [bit_or_pow]
    by_cases z : p = j
    · subst z; simp [c]
    · simp [z]
theorem cut_zero : cutB R 0 = [] := by
  unfold cutB
  have : (List.range R.length).filter (Nat.testBit 0) = [] := List.filter_eq_nil_iff.mpr fun i _ => by rw [Nat.zero_testBit]; simp
  rw [this]; rfl
theorem cl_no_behind {b p q : Nat} (C : Cl L R b) (hb : b.testBit q = true) (hpq : p < q) (hg : Hang L (lt R p) (lt R q)) : b.testBit p = true := C.2 p q hb (.tail (.refl p) hpq hg)
/-- the words of a layer are those of its pasts -/
structure WOk (h : Nat) (L : List (Nat × List Nat)) (R : List Nat) (i : Nat) (w : List Nat × Nat) : Prop where
  cl : Cl L R w.2
  cd : cdB R.length w.2 = i
  ok : RowOk L w.1
  same : Same h L w.1 (cutB R w.2)
theorem wd_ok (H : House h L) (hR : RowOk L R) {Bs : List Nat} (N : NeedOk L R Bs) : ∀ i, ∀ w ∈ wdE Bs L R i, WOk h L R i w
  | 0, w, hw => by
    rw [wdE, List.mem_singleton] at hw
    subst hw
    exact ⟨cl_zero, cd_zero, fun r hr => (by cases hr), fun x _ => by rw [cut_zero]⟩
  | i + 1, w, hw => by
    rw [wdE, List.mem_flatMap] at hw
    obtain ⟨v, hv, hw⟩ := hw
    have V := wd_ok H hR N i v hv
    obtain ⟨ap, hap, rfl⟩ := List.mem_map.mp hw
    have X := nxt_ok H hR N V.cl hap
    refine ⟨cl_add V.cl X.hp X.be, by rw [cd_add X.hp X.out, V.cd], fun r hr => ?_, fun x hx => ?_⟩
    · rcases List.mem_append.mp hr with z | z
      · exact V.ok r z
      · rw [List.mem_singleton] at z; subst z; exact lt_ok hR X.hp
    · show see L x (v.1 ++ [lt R ap.2]) = _
      rw [see_snoc, V.same x hx, see_add X.hp X.out fun q hq hlt hg => ?_]
      have := cl_no_behind V.cl hq hlt hg
      rw [X.out] at this; cases this
theorem see_nil_iff {x : Nat} {w : List Nat} : see L x w = [] ↔ ∀ a ∈ w, x ∉ ow L a := by
  unfold M.see
  rw [List.filter_eq_nil_iff]
  constructor
  · intro z a ha hx; exact z a ha (by simpa using hx)
  · intro z a ha hx; exact z a ha (by simpa using hx)
theorem last_snoc {α : Type} {u v : List α} {a b : α} (e : u ++ [a] = v ++ [b]) : u = v ∧ a = b := by
  have := List.append_inj' e rfl
  exact ⟨this.1, by simpa using this.2⟩
theorem cut_mem {b a : Nat} : a ∈ cutB R b ↔ ∃ j, j < R.length ∧ b.testBit j = true ∧ lt R j = a := by
  unfold cutB
  rw [List.mem_map]
  constructor
  · rintro ⟨j, hj, e⟩
    rw [List.mem_filter, List.mem_range] at hj
    exact ⟨j, hj.1, hj.2, e⟩
  · rintro ⟨j, h1, h2, e⟩
    exact ⟨j, by rw [List.mem_filter, List.mem_range]; exact ⟨h1, h2⟩, e⟩
theorem cut_ok (hR : RowOk L R) {b : Nat} : RowOk L (cutB R b) := fun a ha => by
  obtain ⟨j, h1, _, rfl⟩ := cut_mem.mp ha
  exact lt_ok hR h1
theorem has_hand (H : House h L) {a : Nat} (ha : ∃ e ∈ L, e.1 = a) : ∃ x, x < h ∧ x ∈ ow L a := by
  obtain ⟨e, he, rfl⟩ := ha
  obtain ⟨x, hx⟩ := List.exists_mem_of_ne_nil _ (H.own e he).ne
  exact ⟨x, (H.own e he).lt x hx, by rw [ow_mem H.rise he]; exact hx⟩
theorem maxOf {P : Nat → Prop} [DecidablePred P] {n : Nat} (h : ∃ j, j < n ∧ P j) : ∃ j, j < n ∧ P j ∧ ∀ q, q < n → P q → q ≤ j := by
  induction n with
  | zero => obtain ⟨j, hj, _⟩ := h; omega
  | succ n ih =>
    by_cases c : P n
    · exact ⟨n, by omega, c, fun q hq _ => by omega⟩
    · obtain ⟨j, hj, hp⟩ := h
      have : j ≠ n := fun e => c (e ▸ hp)
      obtain ⟨k, h1, h2, h3⟩ := ih ⟨j, by omega, hp⟩
      exact ⟨k, by omega, h2, fun q hq hpq => by
        by_cases e : q = n
        · subst e; exact (c hpq).elim
        · exact h3 q (by omega) hpq⟩
/-- the last deed of a word stands at a top -/
theorem top_of (H : House h L) (hR : RowOk L R) {b l : Nat} {w : List Nat} (ok : RowOk L (w ++ [l])) (sm : Same h L (w ++ [l]) (cutB R b)) : ∃ p, p < R.length ∧ b.testBit p = true ∧ lt R p = l ∧ ∀ q, b.testBit q = true → p < q → q < R.length → ¬ Hang L (lt R p) (lt R q) := by
  obtain ⟨x0, hx0, hl0⟩ := has_hand H (ok l (by simp))
  have hm : l ∈ cutB R b := (Same.mem H ok sm (by simp))
  obtain ⟨j0, a1, a2, a3⟩ := cut_mem.mp hm
  obtain ⟨p, p1, ⟨p2, p3⟩, p4⟩ := maxOf (P := fun j => b.testBit j = true ∧ lt R j = l) ⟨j0, a1, a2, a3⟩
  refine ⟨p, p1, p2, p3, fun q hq hpq hqn ⟨x, h1, h2⟩ => ?_⟩
  have hx := ow_lt H h1
  rw [p3] at h1
  have e := sm x hx
  rw [see_snoc, if_pos h1, see_cut] at e
  obtain ⟨m, m1, ⟨m2, m3⟩, m4⟩ := maxOf (P := fun j => b.testBit j = true ∧ x ∈ ow L (lt R j)) ⟨q, hqn, hq, h2⟩
  have sp := filter_last (p := m) (q := fun j => (b.testBit j && decide (x ∈ ow L (lt R j))) && decide (j ≠ m)) (q' := fun j => b.testBit j && decide (x ∈ ow L (lt R j))) (fun i => by
    by_cases z : m = i
    · subst z; simp [m2, m3]
    · have z' : i ≠ m := fun y => z y.symm
      simp [z, z']) (by simp) (List.pairwise_lt_range (n := R.length)) (List.mem_range.mpr m1) (fun i hi hi2 => by
    have hi2 : ((b.testBit i && decide (x ∈ ow L (lt R i))) && decide (i ≠ m)) = true := hi2
    rw [Bool.and_eq_true, Bool.and_eq_true, decide_eq_true_eq, decide_eq_true_eq] at hi2
    have := m4 i (List.mem_range.mp hi) hi2.1
    have := hi2.2
    omega)
  rw [sp, List.map_append, List.map_cons, List.map_nil] at e
  have el := (last_snoc e).2
  have := p4 m m1 ⟨m2, el.symm⟩
  have := m4 q hqn ⟨hq, h2⟩
  omega
theorem wd_all (H : House h L) (hR : RowOk L R) {Bs : List Nat} (N : NeedOk L R Bs) : ∀ i, ∀ w b, WOk h L R i (w, b) → (w, b) ∈ wdE Bs L R i
  | 0, w, b, W => by
    have h0 : b = 0 := cd_none W.cl.1 W.cd
    have hw : w = [] := by
      cases w with
      | nil => rfl
      | cons a w =>
        have := Same.mem H W.ok W.same (a := a) List.mem_cons_self
        obtain ⟨j, _, h2, _⟩ := cut_mem.mp this
        have h2 : b.testBit j = true := h2
        rw [h0, Nat.zero_testBit] at h2; cases h2
    rw [wdE, h0, hw]; exact List.mem_singleton.mpr rfl
  | i + 1, w, b, W => by
    have C : Cl L R b := W.cl
    have hc : cdB R.length b = i + 1 := W.cd
    have ok : RowOk L w := W.ok
    have sm : Same h L w (cutB R b) := W.same
    obtain ⟨j0, c0, _, _, _, hj0, eb, _⟩ := C.top hc
    have hb0 : b.testBit j0 = true := by rw [eb, bit_or_pow]; simp
    have hne : w ≠ [] := fun z => by
      have := Same.mem H (cut_ok hR) (Same.symm sm) (a := lt R j0) (cut_mem.mpr ⟨j0, hj0, hb0, rfl⟩)
      rw [z] at this; cases this
    obtain ⟨w', l, rfl⟩ : ∃ w' l, w = w' ++ [l] := by
      rcases List.eq_nil_or_concat w with z | ⟨w', l, z⟩
      · exact (hne z).elim
      · exact ⟨w', l, by simpa using z⟩
    obtain ⟨p, p1, p2, p3, p4⟩ := top_of H hR ok sm
    have xb : ∀ q, (b ^^^ 2 ^ p).testBit q = (b.testBit q ^^ decide (p = q)) := fun q => xor_pow
    have out : (b ^^^ 2 ^ p).testBit p = false := by rw [xb, p2]; simp
    have ebp : b = (b ^^^ 2 ^ p) ||| 2 ^ p := by
      apply Nat.eq_of_testBit_eq
      intro q
      rw [bit_or_pow, xb]
      by_cases c : p = q
      · subst c; simp [p2]
      · simp [c]
    have C' : Cl L R (b ^^^ 2 ^ p) := by
      refine ⟨Nat.xor_lt_two_pow C.1 (pow_lt_pow' p1), fun q r hr hqr => ?_⟩
      rw [xb] at hr ⊢
      by_cases c : p = r
      · subst c; rw [p2] at hr; simp at hr
      · simp only [c, decide_false, Bool.xor_false] at hr
        have h1 := C.2 q r hr hqr
        by_cases d : p = q
        · exfalso
          subst d
          rcases Reach.head_iff.mp hqr with z | ⟨s, l1, hg, r2⟩
          · exact c z
          · exact p4 s (C.2 s r hr r2) l1 (C.lt (C.2 s r hr r2)) hg
        · simp [d, h1]
    have be : ∀ q, Below L R q p → q = p ∨ (b ^^^ 2 ^ p).testBit q = true := fun q hq => by
      by_cases z : q = p
      · exact .inl z
      · right
        rw [xb]
        have : ¬ p = q := fun y => z y.symm
        simp [this, C.2 q p p2 hq]
    have hcd : cdB R.length (b ^^^ 2 ^ p) = i := by
      have := cd_add p1 out
      rw [← ebp, hc] at this
      omega
    have sm' : Same h L w' (cutB R (b ^^^ 2 ^ p)) := fun x hx => by
      have e := sm x hx
      have sa := see_add (L := L) (x := x) p1 out (fun q hq hlt hg => by
        rw [xb] at hq
        have : ¬ p = q := by omega
        simp only [this, decide_false, Bool.xor_false] at hq
        exact p4 q hq hlt (C.lt hq) hg)
      rw [← ebp, p3] at sa
      rw [sa, see_snoc] at e
      by_cases c : x ∈ ow L l
      · rw [if_pos c] at e; exact (last_snoc e).1
      · rw [if_neg c, List.append_nil, List.append_nil] at e; exact e
    have ih := wd_all H hR N i w' (b ^^^ 2 ^ p) ⟨C', hcd, fun r hr => ok r (List.mem_append_left _ hr), sm'⟩
    obtain ⟨a, ha⟩ := nxt_of H hR N C' p1 out be
    rw [wdE, List.mem_flatMap]
    refine ⟨_, ih, List.mem_map.mpr ⟨(a, p), ha, ?_⟩⟩
    show (w' ++ [lt R p], (b ^^^ 2 ^ p) ||| 2 ^ p) = _
    rw [← ebp, p3]
theorem next_letters (H : House h L) {Bs : List Nat} {b : Nat} (hw : ∀ x ∈ nextsB Bs L R b, x.1 < L.length ∧ (L.getD x.1 (0, [])).1 = lt R x.2) : (nextsB Bs L R b).Pairwise fun x y => lt R x.2 ≠ lt R y.2 := by
  have pw : (nextsB Bs L R b).Pairwise fun x y => x.1 < y.1 := by
    unfold nextsB
    rw [List.pairwise_filterMap]
    refine List.pairwise_lt_range.imp fun {a a'} haa x hx y hy => ?_
    have e : ∀ a x, nxtA Bs L R b a = some x → x.1 = a := fun a x hx => by
      unfold nxtA at hx
      split at hx
      · split at hx
        · cases hx; rfl
        · cases hx
      · cases hx
    rw [e a x hx, e a' y hy]; exact haa
  refine List.Pairwise.imp_of_mem (fun {x y} hx hy hlt => ?_) pw
  obtain ⟨x1, x2⟩ := hw x hx
  obtain ⟨y1, y2⟩ := hw y hy
  rw [← x2, ← y2]
  have r := List.pairwise_iff_getElem.mp H.rise x.1 y.1 x1 y1 hlt
  rw [List.getD_eq_getElem?_getD, List.getElem?_eq_getElem x1, List.getD_eq_getElem?_getD, List.getElem?_eq_getElem y1]
  exact Nat.ne_of_lt r
theorem or_cancel {b c p : Nat} (hb : b.testBit p = false) (hc : c.testBit p = false) (e : b ||| 2 ^ p = c ||| 2 ^ p) : b = c := by
  apply Nat.eq_of_testBit_eq
  intro i
  have := congrArg (fun z => Nat.testBit z i) e
  simp only [bit_or_pow] at this
  by_cases z : p = i
  · subst z; rw [hb, hc]
  · simpa [z] using this
theorem wd_nodup (H : House h L) (hR : RowOk L R) {Bs : List Nat} (N : NeedOk L R Bs) : ∀ i, (wdE Bs L R i).Nodup
  | 0 => by rw [wdE]; simp
  | i + 1 => by
    have ih := wd_nodup H hR N i
    rw [wdE]
    unfold List.Nodup at ih ⊢
    rw [List.pairwise_flatMap]
    have ok := wd_ok H hR N i
    refine ⟨fun w hw => ?_, List.Pairwise.imp_of_mem (fun {v w} hv hw hne x hx y hy e => ?_) ih⟩
    · unfold kidW
      rw [List.pairwise_map]
      refine (next_letters H fun x hx => ?_).imp fun {x y} hn e => hn ?_
      · have X := nxt_ok H hR N (ok w hw).cl (a := x.1) (p := x.2) hx
        exact ⟨X.ha, X.lt⟩
      · exact (last_snoc (Prod.mk.inj e).1).2
    · obtain ⟨ax, hax, rfl⟩ := List.mem_map.mp hx
      obtain ⟨ay, hay, rfl⟩ := List.mem_map.mp hy
      obtain ⟨e1, e2⟩ := Prod.mk.inj e
      obtain ⟨e3, e4⟩ := last_snoc e1
      have X := nxt_ok H hR N (ok v hv).cl (a := ax.1) (p := ax.2) hax
      have Y := nxt_ok H hR N (ok w hw).cl (a := ay.1) (p := ay.2) hay
      have ep : ax.2 = ay.2 := by
        rcases Nat.lt_trichotomy ax.2 ay.2 with c | c | c
        · exfalso
          have h1 : (v.2 ||| 2 ^ ax.2).testBit ay.2 = true := by rw [e2, bit_or_pow]; simp
          rw [bit_or_pow] at h1
          have ne : ¬ ax.2 = ay.2 := by omega
          simp only [ne, decide_false, Bool.or_false] at h1
          have h2 := (ok v hv).cl.2 ax.2 ay.2 h1 (below_same H hR (Nat.le_of_lt c) Y.hp e4)
          rw [X.out] at h2; cases h2
        · exact c
        · exfalso
          have h1 : (w.2 ||| 2 ^ ay.2).testBit ax.2 = true := by rw [← e2, bit_or_pow]; simp
          rw [bit_or_pow] at h1
          have ne : ¬ ay.2 = ax.2 := by omega
          simp only [ne, decide_false, Bool.or_false] at h1
          have h2 := (ok w hw).cl.2 ay.2 ax.2 h1 (below_same H hR (Nat.le_of_lt c) X.hp e4.symm)
          rw [Y.out] at h2; cases h2
      have eb : v.2 = w.2 := by
        have yo := Y.out
        rw [← ep] at e2 yo
        exact or_cancel X.out yo e2
      exact hne (Prod.ext e3 eb)
def fat (c : Nat) (e : En) : Nat := if e.2.2 = c then e.2.1 else 0
def sumF (f : En → Nat) (l : List En) : Nat := (l.map f).sum
theorem sumF_cons {f : En → Nat} {e : En} {l : List En} : sumF f (e :: l) = f e + sumF f l := by unfold sumF; rw [List.map_cons, List.sum_cons]
theorem sumF_put {f : En → Nat} {z : Nat} {k : List Nat} {g : En → En} : ∀ {l : List En}, (∀ e ∈ l, f (g e) = f e + if e.1 = k then z else 0) → sumF f (l.map g) = sumF f l + (l.map (·.1)).count k * z
  | [], _ => by simp [sumF]
  | e :: l, hf => by
    rw [List.map_cons, sumF_cons, sumF_cons, sumF_put fun x hx => hf x (List.mem_cons_of_mem _ hx), hf e List.mem_cons_self, List.map_cons, List.count_cons]
    by_cases c : e.1 = k
    · simp only [c, if_true, beq_self_eq_true, Nat.succ_mul]; omega
    · have : (e.1 == k) = false := by simpa using c
      simp only [c, if_false, this, Bool.false_eq_true, Nat.add_zero]; omega
theorem fat_put (H : House h L) (hR : RowOk L R) {i : Nat} {acc : List En} (I : PInv L R i acc) {m b c : Nat} (C : Cl L R b) : sumF (fat c) (putE acc (cnsR L R b) m b) = sumF (fat c) acc + if b = c then m else 0 := by
  unfold putE
  split
  · rename_i hm
    rw [sumF_put (k := cnsR L R b) (z := if b = c then m else 0) fun e he => ?_]
    · have : (acc.map (·.1)).count (cnsR L R b) = 1 := by
        have := List.nodup_iff_count.mp I.nd (cnsR L R b)
        have h2 := List.count_pos_iff.mpr hm
        omega
      rw [this, Nat.one_mul]
    · by_cases z : e.1 = cnsR L R b
      · obtain ⟨f1, f2, f3⟩ := I.en e he
        have eb : e.2.2 = b := cns_inj H hR f1 C (f3.symm.trans z)
        rw [if_pos z, if_pos z]
        unfold fat
        rw [eb]
        by_cases y : b = c
        · simp [y]
        · simp [y]
      · rw [if_neg z, if_neg z, Nat.add_zero]
  · unfold sumF
    rw [List.map_append, List.sum_append]
    congr 1
def cntN (Bs : List Nat) (L : List (Nat × List Nat)) (R : List Nat) (b c : Nat) : Nat := ((nextsB Bs L R b).filter fun x => decide (b ||| 2 ^ x.2 = c)).length
theorem fat_spread (H : House h L) (hR : RowOk L R) {i c : Nat} {e : En} (C : Cl L R e.2.2) (hc : cdB R.length e.2.2 = i) (hk : e.1 = cnsR L R e.2.2) : ∀ (ap : List (Nat × Nat)) (acc : List En), (∀ x ∈ ap, NxOk L R e.2.2 x.1 x.2) → PInv L R (i + 1) acc →
    sumF (fat c) (ap.foldl (addE e) acc) = sumF (fat c) acc + e.2.1 * (ap.filter fun x => decide (e.2.2 ||| 2 ^ x.2 = c)).length
  | [], acc, _, _ => by simp
  | x :: ap, acc, hx, I => by
    have X := hx x List.mem_cons_self
    have C' := cl_add C X.hp X.be
    have ea : addE e acc x = putE acc (cnsR L R (e.2.2 ||| 2 ^ x.2)) e.2.1 (e.2.2 ||| 2 ^ x.2) := by
      unfold addE; rw [hk, X.more H]
    have I' : PInv L R (i + 1) (addE e acc x) := by
      have hc' := cd_add X.hp X.out
      rw [hc] at hc'
      rw [ea]; exact I.put H hR C' hc'
    rw [List.foldl_cons, fat_spread H hR C hc hk ap _ (fun y hy => hx y (List.mem_cons_of_mem _ hy)) I', ea, fat_put H hR I C', List.filter_cons]
    by_cases z : e.2.2 ||| 2 ^ x.2 = c
    · simp only [z, if_true, decide_true, List.length_cons, Nat.mul_succ]; omega
    · simp only [z, if_false, decide_false, Bool.false_eq_true]; omega
theorem fat_step (H : House h L) (hR : RowOk L R) {Bs : List Nat} (N : NeedOk L R Bs) {i c : Nat} : ∀ (lay acc : List En), (∀ e ∈ lay, Cl L R e.2.2 ∧ cdB R.length e.2.2 = i ∧ e.1 = cnsR L R e.2.2) → PInv L R (i + 1) acc →
    sumF (fat c) (lay.foldl (spreadE Bs L R) acc) = sumF (fat c) acc + sumF (fun e => e.2.1 * cntN Bs L R e.2.2 c) lay
  | [], acc, _, _ => by simp [sumF]
  | e :: lay, acc, hl, I => by
    obtain ⟨C, hc, hk⟩ := hl e List.mem_cons_self
    obtain ⟨s1, _⟩ := spread_inv H hR C hc hk (nextsB Bs L R e.2.2) acc (fun x hx => nxt_ok H hR N C hx) I
    have s2 := fat_spread (c := c) H hR C hc hk (nextsB Bs L R e.2.2) acc (fun x hx => nxt_ok H hR N C hx) I
    have s3 : sumF (fat c) (spreadE Bs L R acc e) = sumF (fat c) acc + e.2.1 * cntN Bs L R e.2.2 c := s2
    rw [List.foldl_cons, fat_step H hR N lay (spreadE Bs L R acc e) (fun y hy => hl y (List.mem_cons_of_mem _ hy)) s1, s3, sumF_cons, Nat.add_assoc]
theorem fat_own : ∀ {l : List En} {e : En}, (l.map fun e => e.2.2).Nodup → e ∈ l → sumF (fat e.2.2) l = e.2.1
  | f :: l, e, nd, he => by
    rw [List.map_cons, List.nodup_cons] at nd
    rw [sumF_cons]
    rcases List.mem_cons.mp he with rfl | he
    · have z : sumF (fat e.2.2) l = 0 := by
        unfold sumF
        have : l.map (fat e.2.2) = l.map fun _ => 0 := List.map_congr_left fun x hx => by
          unfold fat
          rw [if_neg fun y => nd.1 (List.mem_map.mpr ⟨x, hx, y⟩)]
        rw [this]
        clear this nd he
        induction l with
        | nil => rfl
        | cons a l ih => rw [List.map_cons, List.sum_cons, ih]
      rw [z]
      unfold fat
      simp
    · rw [fat_own nd.2 he]
      unfold fat
      rw [if_neg fun y => nd.1 (List.mem_map.mpr ⟨e, he, y.symm⟩)]; omega
theorem len_filter_flat {α β : Type} {f : α → List β} {p : β → Bool} : ∀ l : List α, ((l.flatMap f).filter p).length = (l.map fun x => ((f x).filter p).length).sum
  | [] => rfl
  | x :: l => by rw [List.flatMap_cons, List.filter_append, List.length_append, len_filter_flat l, List.map_cons, List.sum_cons]
def cW (Bs : List Nat) (L : List (Nat × List Nat)) (R : List Nat) (i c : Nat) : Nat := ((wdE Bs L R i).filter fun w => decide (w.2 = c)).length
theorem cW_succ {Bs : List Nat} {i c : Nat} : cW Bs L R (i + 1) c = ((wdE Bs L R i).map fun w => cntN Bs L R w.2 c).sum := by
  unfold cW
  rw [wdE, len_filter_flat]
  congr 1
  refine List.map_congr_left fun w _ => ?_
  unfold kidW cntN
  rw [List.filter_map, List.length_map]; rfl
theorem sum_one {F : Nat → Nat} {k : Nat} : ∀ {bs : List Nat}, bs.Nodup → k ∈ bs → (bs.map fun b => if k = b then F b else 0).sum = F k
  | b :: bs, nd, hk => by
    rw [List.nodup_cons] at nd
    rw [List.map_cons, List.sum_cons]
    rcases List.mem_cons.mp hk with rfl | hk
    · rw [if_pos rfl]
      have : (bs.map fun b => if k = b then F b else 0) = bs.map fun _ => 0 := List.map_congr_left fun x hx => if_neg fun y => nd.1 (by rw [y]; exact hx)
      rw [this]
      have z : ∀ l : List Nat, (l.map fun _ => 0).sum = 0 := fun l => by
        induction l with
        | nil => rfl
        | cons a l ih => rw [List.map_cons, List.sum_cons, ih]
      rw [z]; rfl
    · rw [if_neg fun y => nd.1 (by rw [← y]; exact hk), sum_one nd.2 hk, Nat.zero_add]
theorem sum_add' {α : Type} {f g : α → Nat} : ∀ l : List α, (l.map fun x => f x + g x).sum = (l.map f).sum + (l.map g).sum
  | [] => rfl
  | x :: l => by rw [List.map_cons, List.map_cons, List.map_cons, List.sum_cons, List.sum_cons, List.sum_cons, sum_add' l]; omega
theorem regroup {F : Nat → Nat} {bs : List Nat} (nd : bs.Nodup) : ∀ {ws : List (List Nat × Nat)}, (∀ w ∈ ws, w.2 ∈ bs) → (ws.map fun w => F w.2).sum = (bs.map fun b => (ws.filter fun w => decide (w.2 = b)).length * F b).sum
  | [], _ => by
    have z : ∀ l : List Nat, (l.map fun b => 0 * F b).sum = 0 := fun l => by
      induction l with
      | nil => rfl
      | cons a l ih => rw [List.map_cons, List.sum_cons, ih, Nat.zero_mul]
    exact (z bs).symm
  | w :: ws, hw => by
    rw [List.map_cons, List.sum_cons, regroup nd fun x hx => hw x (List.mem_cons_of_mem _ hx), ← sum_one (F := F) nd (hw w List.mem_cons_self), ← sum_add']
    congr 1
    refine List.map_congr_left fun b _ => ?_
    rw [List.filter_cons]
    by_cases c : w.2 = b
    · simp only [c, if_true, decide_true, List.length_cons, Nat.succ_mul]; omega
    · simp only [c, if_false, decide_false, Bool.false_eq_true, Nat.zero_add]
theorem lay_many (H : House h L) (hR : RowOk L R) {Bs : List Nat} (N : NeedOk L R Bs) : ∀ i, ∀ e ∈ layE Bs L R i, e.2.1 = cW Bs L R i e.2.2
  | 0, e, he => by
    rw [layE, List.mem_singleton] at he
    subst he
    rfl
  | i + 1, e, he => by
    obtain ⟨I, hI⟩ := lay_inv H hR N i
    obtain ⟨I', _⟩ := lay_inv H hR N (i + 1)
    have e1 := fat_own (I'.inj H hR) he
    have e2 := fat_step (c := e.2.2) H hR N (layE Bs L R i) [] I.en PInv.nil
    have e3 : sumF (fat e.2.2) (layE Bs L R (i + 1)) = sumF (fat e.2.2) [] + sumF (fun f => f.2.1 * cntN Bs L R f.2.2 e.2.2) (layE Bs L R i) := e2
    have e4 := regroup (F := fun b => cntN Bs L R b e.2.2) (I.inj H hR) (ws := wdE Bs L R i) fun w hw => by
      have W := wd_ok H hR N i w hw
      obtain ⟨f, hf, ef⟩ := (hI w.2).mpr ⟨W.cl, W.cd⟩
      exact List.mem_map.mpr ⟨f, hf, ef⟩
    rw [cW_succ, e4, ← e1, e3, List.map_map]
    have z : sumF (fat e.2.2) [] = 0 := rfl
    rw [z, Nat.zero_add]
    unfold sumF
    congr 1
    refine List.map_congr_left fun f hf => ?_
    show f.2.1 * _ = cW Bs L R i f.2.2 * _
    rw [← lay_many H hR N i f hf]
theorem sum_words (H : House h L) (hR : RowOk L R) {Bs : List Nat} (N : NeedOk L R Bs) (i : Nat) : sumE (layE Bs L R i) = (wdE Bs L R i).length := by
  obtain ⟨I, hI⟩ := lay_inv H hR N i
  have e4 := regroup (F := fun _ => 1) (I.inj H hR) (ws := wdE Bs L R i) fun w hw => by
    have W := wd_ok H hR N i w hw
    obtain ⟨f, hf, ef⟩ := (hI w.2).mpr ⟨W.cl, W.cd⟩
    exact List.mem_map.mpr ⟨f, hf, ef⟩
  have e5 : ∀ l : List (List Nat × Nat), (l.map fun _ => 1).sum = l.length := fun l => by
    induction l with
    | nil => rfl
    | cons a l ih => rw [List.map_cons, List.sum_cons, ih, List.length_cons]; omega
  rw [e5, List.map_map] at e4
  rw [e4]
  unfold sumE
  congr 1
  refine List.map_congr_left fun f hf => ?_
  show f.2.1 = cW Bs L R i f.2.2 * 1
  rw [Nat.mul_one, ← lay_many H hR N i f hf]
def NbR (L : List (Nat × List Nat)) (P Q : List Nat) : Prop := ∃ A a b B, P = A ++ a :: b :: B ∧ Q = A ++ b :: a :: B ∧ ¬ Hang L a b
theorem NbR.symm {P Q : List Nat} (n : NbR L P Q) : NbR L Q P := by
  obtain ⟨A, a, b, B, rfl, rfl, hn⟩ := n
  exact ⟨A, b, a, B, rfl, rfl, fun z => hn z.symm⟩
theorem NbR.len {P Q : List Nat} (n : NbR L P Q) : Q.length = P.length := by
  obtain ⟨A, a, b, B, rfl, rfl, hn⟩ := n
  simp
theorem NbR.ok {P Q : List Nat} (n : NbR L P Q) (hP : RowOk L P) : RowOk L Q := by
  obtain ⟨A, a, b, B, rfl, rfl, hn⟩ := n
  intro r hr
  refine hP r ?_
  simp only [List.mem_append, List.mem_cons] at hr ⊢
  rcases hr with z | z | z | z
  · exact .inl z
  · exact .inr (.inr (.inl z))
  · exact .inr (.inl z)
  · exact .inr (.inr (.inr z))
theorem NbR.same (H : House h L) {P Q : List Nat} (n : NbR L P Q) : M.Same h L Q P := by
  obtain ⟨A, a, b, B, rfl, rfl, hn⟩ := n
  exact swap_same H hn
def swapAt (Q : List Nat) (q : Nat) : List Nat := Q.take q ++ M.lt Q (q + 1) :: M.lt Q q :: Q.drop (q + 2)
theorem swapAt_nb {Q : List Nat} {q : Nat} (hq : q + 1 < Q.length) (hn : ¬ Hang L (M.lt Q q) (M.lt Q (q + 1))) : NbR L Q (swapAt Q q) :=
  ⟨Q.take q, M.lt Q q, M.lt Q (q + 1), Q.drop (q + 2), by rw [← drop_two hq, List.take_append_drop], rfl, hn⟩
theorem nb_swapAt {Q P : List Nat} (n : NbR L Q P) : ∃ q, q + 1 < Q.length ∧ ¬ Hang L (M.lt Q q) (M.lt Q (q + 1)) ∧ P = swapAt Q q := by
  obtain ⟨A, a, b, B, rfl, rfl, hn⟩ := n
  have h0 : M.lt (A ++ a :: b :: B) A.length = a := by unfold M.lt; rw [List.getElem?_append_right (Nat.le_refl _)]; simp
  have h1 : M.lt (A ++ a :: b :: B) (A.length + 1) = b := by unfold M.lt; rw [List.getElem?_append_right (by omega)]; simp
  refine ⟨A.length, by simp, by rw [h0, h1]; exact hn, ?_⟩
  unfold swapAt
  rw [h0, h1, List.take_left]
  congr 3
  rw [List.drop_append, List.drop_eq_nil_of_le (by omega)]
  simp
def ClT (L : List (Nat × List Nat)) (T : List (List Nat)) : Prop := ∀ Q ∈ T, ∀ P, NbR L Q P → P ∈ T
theorem bring_in {T : List (List Nat)} (cl : ClT L T) {Dn : List Nat} {a : Nat} : ∀ (n : Nat) (A B : List Nat), A.length = n → (∀ c ∈ A, ¬ Hang L c a) → Dn ++ (A ++ a :: B) ∈ T → Dn ++ (a :: (A ++ B)) ∈ T
  | 0, A, B, e, _, hm => by
    have : A = [] := List.length_eq_zero_iff.mp e
    subst this; exact hm
  | n + 1, A, B, e, hf, hm => by
    obtain ⟨A', c, rfl⟩ : ∃ A' c, A = A' ++ [c] := by
      rcases List.eq_nil_or_concat A with z | ⟨w', l, z⟩
      · subst z; cases e
      · exact ⟨w', l, by simpa using z⟩
    have hc := hf c (by simp)
    have h1 : Dn ++ (A' ++ a :: (c :: B)) ∈ T := by
      refine cl _ hm _ ⟨Dn ++ A', c, a, B, by simp, by simp, hc⟩
    have h2 := bring_in cl n A' (c :: B) (by simpa using e) (fun x hx => hf x (List.mem_append_left _ hx)) h1
    simpa using h2
theorem same_in (H : House h L) {T : List (List Nat)} (cl : ClT L T) : ∀ (Q Dn S : List Nat), RowOk L Q → RowOk L S → Same h L Q S → Dn ++ S ∈ T → Dn ++ Q ∈ T
  | [], Dn, S, _, hS, sm, hm => by
    have : S = [] := by
      cases S with
      | nil => rfl
      | cons a S => have := Same.mem H hS (Same.symm sm) (a := a) List.mem_cons_self; cases this
    subst this; exact hm
  | a :: Q, Dn, S, hQ, hS, sm, hm => by
    have ha := Same.mem H hQ sm (a := a) List.mem_cons_self
    obtain ⟨A, B, rfl, hn⟩ := List.eq_append_cons_of_mem ha
    have free : ∀ x, x ∈ ow L a → see L x A = [] := fun x hx => by
      have e := sm x (ow_lt H hx)
      rw [see_app] at e
      have e1 : see L x (a :: Q) = a :: see L x Q := by unfold M.see; rw [List.filter_cons, decide_eq_true hx]; rfl
      rw [e1] at e
      cases hs : see L x A with
      | nil => rfl
      | cons y ys =>
        exfalso
        rw [hs, List.cons_append] at e
        have := (List.cons.inj e).1
        have hy : y ∈ see L x A := by rw [hs]; exact List.mem_cons_self
        exact hn (this ▸ (mem_see.mp hy).1)
    have hf : ∀ c ∈ A, ¬ Hang L c a := fun c hc ⟨x, h1, h2⟩ => see_nil_iff.mp (free x h2) c hc h1
    have sm' : Same h L Q (A ++ B) := fun x hx => by
      have e := sm x hx
      rw [see_app] at e ⊢
      by_cases c : x ∈ ow L a
      · have e1 : ∀ Z, see L x (a :: Z) = a :: see L x Z := fun Z => by unfold M.see; rw [List.filter_cons, decide_eq_true c]; rfl
        rw [e1, e1, free x c, List.nil_append] at e
        rw [free x c, List.nil_append]
        exact (List.cons.inj e).2
      · have e1 : ∀ Z, see L x (a :: Z) = see L x Z := fun Z => by unfold M.see; rw [List.filter_cons, decide_eq_false c]; rfl
        rw [e1, e1] at e
        exact e
    have h1 := bring_in cl A.length A B rfl hf hm
    have h2 : (Dn ++ [a]) ++ (A ++ B) ∈ T := by simpa using h1
    have h3 := same_in H cl Q (Dn ++ [a]) (A ++ B) (fun r hr => hQ r (List.mem_cons_of_mem _ hr)) (fun r hr => hS r (by
      rcases List.mem_append.mp hr with z | z
      · exact List.mem_append_left _ z
      · exact List.mem_append_right _ (List.mem_cons_of_mem _ z))) sm' h2
    simpa using h3
theorem cut_full {b : Nat} (hb : ∀ j, j < R.length → b.testBit j = true) : cutB R b = R := by
  unfold cutB
  have e1 : (List.range R.length).filter b.testBit = List.range R.length := List.filter_eq_self.mpr fun j hj => hb j (List.mem_range.mp hj)
  rw [e1]
  apply List.ext_getElem?
  intro i
  rw [List.getElem?_map]
  by_cases hi : i < R.length
  · rw [List.getElem?_range hi, List.getElem?_eq_getElem hi]
    show some (lt R i) = _
    unfold lt
    rw [List.getElem?_eq_getElem hi]; rfl
  · rw [List.getElem?_eq_none (by simpa using hi), List.getElem?_eq_none (by omega)]; rfl
theorem cd_full {n b : Nat} (h : cdB n b = n) : ∀ j, j < n → b.testBit j = true := fun j hj => by
  unfold cdB at h
  have e : (List.range n).filter b.testBit = List.range n := List.Sublist.eq_of_length List.filter_sublist (by rw [h, List.length_range])
  have : j ∈ (List.range n).filter b.testBit := by rw [e]; exact List.mem_range.mpr hj
  exact (List.mem_filter.mp this).2
def fullB (n : Nat) : Nat := 2 ^ n - 1
theorem full_bit {n j : Nat} : (fullB n).testBit j = decide (j < n) := Nat.testBit_two_pow_sub_one n j
theorem full_eq {b : Nat} (C : Cl L R b) (hc : cdB R.length b = R.length) : b = fullB R.length := by
  apply Nat.eq_of_testBit_eq
  intro i
  rw [full_bit]
  by_cases hi : i < R.length
  · rw [cd_full hc i hi, decide_eq_true hi]
  · rw [decide_eq_false hi]
    cases z : b.testBit i with
    | false => rfl
    | true => exact (hi (C.lt z)).elim
theorem cl_full : Cl L R (fullB R.length) := ⟨by unfold fullB; have := Nat.two_pow_pos R.length; omega, fun i j hj hb => by
  rw [full_bit, decide_eq_true_eq] at hj ⊢
  have := hb.le; omega⟩
theorem cd_of_full {n : Nat} : cdB n (fullB n) = n := by
  unfold cdB
  have : (List.range n).filter (fullB n).testBit = List.range n := List.filter_eq_self.mpr fun j hj => by rw [full_bit, decide_eq_true (List.mem_range.mp hj)]
  rw [this, List.length_range]
/-- the words of the whole heap: just the rows alike -/
theorem words_all (H : House h L) (hR : RowOk L R) {Bs : List Nat} (N : NeedOk L R Bs) {Q : List Nat} : Q ∈ (wdE Bs L R R.length).map (·.1) ↔ RowOk L Q ∧ Same h L Q R := by
  rw [List.mem_map]
  constructor
  · rintro ⟨w, hw, rfl⟩
    have W := wd_ok H hR N _ w hw
    have e := cut_full (cd_full W.cd)
    refine ⟨W.ok, fun x hx => ?_⟩
    rw [W.same x hx, e]
  · rintro ⟨h1, h2⟩
    refine ⟨_, wd_all H hR N _ Q (fullB R.length) ⟨cl_full, cd_of_full, h1, fun x hx => ?_⟩, rfl⟩
    have e := cut_full (R := R) (b := fullB R.length) (cd_full cd_of_full)
    show see L x Q = see L x (cutB R (fullB R.length))
    rw [e]; exact h2 x hx
theorem words_nodup (H : House h L) (hR : RowOk L R) {Bs : List Nat} (N : NeedOk L R Bs) : ((wdE Bs L R R.length).map (·.1)).Nodup := by
  have nd := wd_nodup H hR N R.length
  unfold List.Nodup at nd ⊢
  rw [List.pairwise_map]
  refine List.Pairwise.imp_of_mem (fun {v w} hv hw hne e => hne ?_) nd
  have V := wd_ok H hR N _ v hv
  have W := wd_ok H hR N _ w hw
  exact Prod.ext e ((full_eq V.cl V.cd).trans (full_eq W.cl W.cd).symm)
theorem words_count (H : House h L) (hR : RowOk L R) {Bs : List Nat} (N : NeedOk L R Bs) {T : List (List Nat)} (nd : T.Nodup) (hT : ∀ Q ∈ T, RowOk L Q ∧ Same h L Q R) (hin : R ∈ T) (cl : ClT L T) : T.length = (wdE Bs L R R.length).length := by
  have := (List.perm_ext_iff_of_nodup nd (words_nodup H hR N)).mpr fun Q => by
    rw [words_all H hR N]
    exact ⟨hT Q, fun ⟨h1, h2⟩ => same_in H cl Q [] R h1 hR h2 hin⟩
  have := this.length_eq
  rwa [List.length_map] at this
structure BfW (h : Nat) (L : List (Nat × List Nat)) (R : List Nat) (T Wt : List (List Nat)) : Prop where
  nd : T.Nodup
  root : R ∈ T
  ok : ∀ Q ∈ T, RowOk L Q ∧ Same h L Q R ∧ Q.length = R.length
  sub : ∀ Q ∈ Wt, Q ∈ T
theorem BfW.add (H : House h L) {T Wt : List (List Nat)} (B : BfW h L R T Wt) {Q P : List Nat} (hQ : Q ∈ T) (nb : NbR L Q P) (hP : P ∉ T) : BfW h L R (T ++ [P]) (Wt ++ [P]) where
  nd := by
    rw [List.nodup_append]
    exact ⟨B.nd, by simp, fun a ha b hb z => by simp at hb; subst hb; subst z; exact hP ha⟩
  root := List.mem_append_left _ B.root
  ok := fun X hX => by
    rcases List.mem_append.mp hX with z | z
    · exact B.ok X z
    · rw [List.mem_singleton] at z; subst z
      obtain ⟨a, b, c⟩ := B.ok Q hQ
      exact ⟨nb.ok a, Same.trans (nb.same H) b, by rw [nb.len, c]⟩
  sub := fun X hX => by
    rcases List.mem_append.mp hX with z | z
    · exact List.mem_append_left _ (B.sub X z)
    · exact List.mem_append_right _ z
theorem BfW.le (H : House h L) (hR : RowOk L R) {Bs : List Nat} (N : NeedOk L R Bs) {T Wt : List (List Nat)} (B : BfW h L R T Wt) : T.length ≤ (wdE Bs L R R.length).length := by
  have := nodup_sub_len B.nd (ys := (wdE Bs L R R.length).map (·.1)) fun Q hQ => (words_all H hR N).mpr ⟨(B.ok Q hQ).1, (B.ok Q hQ).2.1⟩
  rwa [List.length_map] at this
/-- what is gone through: all but those that wait, and the first j places of Q -/
structure Gone (L : List (Nat × List Nat)) (T Wt : List (List Nat)) (Q : List Nat) (j : Nat) : Prop where
  dn : ∀ X ∈ T, X ∈ Wt ∨ X = Q ∨ ∀ P, NbR L X P → P ∈ T
  pl : ∀ q, q < j → q + 1 < Q.length → ¬ Hang L (M.lt Q q) (M.lt Q (q + 1)) → swapAt Q q ∈ T
theorem Gone.add {T Wt : List (List Nat)} {Q : List Nat} {j : Nat} (g : Gone L T Wt Q j) (P : List Nat) : Gone L (T ++ [P]) (Wt ++ [P]) Q j where
  dn := fun X hX => by
    rcases List.mem_append.mp hX with z | z
    · rcases g.dn X z with w | w | w
      · exact .inl (List.mem_append_left _ w)
      · exact .inr (.inl w)
      · exact .inr (.inr fun Y hY => List.mem_append_left _ (w Y hY))
    · exact .inl (List.mem_append_right _ z)
  pl := fun q h1 h2 h3 => List.mem_append_left _ (g.pl q h1 h2 h3)
theorem Gone.end {T Wt : List (List Nat)} {Q : List Nat} (g : Gone L T Wt Q (Q.length - 1)) : ∀ X ∈ T, X ∈ Wt ∨ ∀ P, NbR L X P → P ∈ T := fun X hX => by
  rcases g.dn X hX with w | w | w
  · exact .inl w
  · subst w
    refine .inr fun P hP => ?_
    obtain ⟨q, q1, q2, rfl⟩ := nb_swapAt hP
    exact g.pl q (by omega) q1 q2
  · exact .inr w
def kk (Q : List Nat) : Key := .inr (rowS Q)
def dT (o : Bool) (T : List (List Nat)) : D := .dct o (T.map kk) (T.map fun _ => .bl true)
theorem kk_inj {P Q : List Nat} : kk P = kk Q ↔ P = Q := by
  unfold kk
  constructor
  · intro e; exact rowS_inj.mp (Sum.inr.inj e)
  · intro e; rw [e]
theorem kk_mem {P : List Nat} {T : List (List Nat)} : kk P ∈ T.map kk ↔ P ∈ T :=
  ⟨fun z => by obtain ⟨Q, hQ, e⟩ := List.mem_map.mp z; exact kk_inj.mp e ▸ hQ, fun z => List.mem_map.mpr ⟨P, z, rfl⟩⟩
theorem dT_put {T : List (List Nat)} {Q : List Nat} (hl : T.length < sizeLine) (hn : Q ∉ T) : putD (dT true T) (.str (rowS Q)) (.bl true) = some (dT true (T ++ [Q])) := by
  show (match Hap.keyOf (.str (rowS Q)) with | some c => _ | none => none) = _
  show (if (T.map fun _ => D.bl true).length < sizeLine then some (D.dct true (putKs (T.map kk) (T.map fun _ => D.bl true) (kk Q) (.bl true)).1 (putKs (T.map kk) (T.map fun _ => D.bl true) (kk Q) (.bl true)).2) else none) = _
  unfold putKs
  rw [if_pos (by rw [List.length_map]; exact hl), if_neg fun z => hn (kk_mem.mp z)]
  unfold dT
  rw [List.map_append, List.map_append]; rfl
theorem dT_nin {o : Bool} {T : List (List Nat)} {Q : List Nat} : gNin (.str (rowS Q)) (dT o T) = some (.bl (!decide (Q ∈ T))) := by
  show some (D.bl (!memK (kk Q) (T.map kk))) = _
  unfold memK
  congr 3
  rw [decide_eq_decide]; exact kk_mem
theorem pop_last {ρ : Ev} {i : Nat} {d : D} {xs : List D} (h : ρ[i]? = some (some (.lst true (xs ++ [d])))) (id : isImm d = true) (hl : xs.length < sizeLine) : fPop0 i ρ = .ok d (ρ.set i (some (.lst true xs))) := by
  unfold fPop0
  rw [h]
  show popD (xs ++ [d]) i ((xs ++ [d]).length - 1) ρ = _
  have e : (xs ++ [d]).length - 1 = xs.length := by simp
  rw [e]
  unfold popD
  rw [List.getElem?_append_right (Nat.le_refl _), Nat.sub_self]
  dsimp only [List.getElem?_cons_zero]
  rw [if_pos ⟨id, by simp; omega⟩]
  congr 3
  rw [List.eraseIdx_append_of_length_le (Nat.le_refl _), Nat.sub_self]; simp
theorem rng1_m1 {n : Nat} (hn : n < 2 ^ 59) : rng1 [.int ((n : Int) - 1)] = some ((List.range (n - 1)).map fun i => .int ((i : Nat) : Int)) := by
  cases n with
  | zero => rfl
  | succ n =>
    have e : ((n + 1 : Nat) : Int) - 1 = (n : Int) := by omega
    rw [e, rng1_n (by omega)]; rfl
/-- the row with two neighbours exchanged, as it is put together -/
theorem swap_row {Q : List Nat} {q : Nat} (hq : q + 1 < Q.length) (hl : Q.length ≤ 1000) : ∃ a b : D, gSl (.str (rowS Q)) none (some (q : Int)) = some a ∧ gIx (.str (rowS Q)) (.int ((q : Int) + 1)) = some (sgD (M.lt Q (q + 1))) ∧ gIx (.str (rowS Q)) (.int (q : Int)) = some (sgD (M.lt Q q)) ∧
    gSl (.str (rowS Q)) (some ((q : Int) + 2)) none = some b ∧ isImm a = true ∧ isImm b = true ∧ ∃ c, gAdd a (sgD (M.lt Q (q + 1))) = some c ∧ isImm c = true ∧ ∃ d, gAdd c (sgD (M.lt Q q)) = some d ∧ isImm d = true ∧ gAdd d b = some (.str (rowS (swapAt Q q))) := by
  have s2 := slice_to (Q := Q) (p := q) (by omega)
  have s3 := slice_from (Q := Q) (p := q + 2) (by omega)
  have e3 : ((q + 2 : Nat) : Int) = (q : Int) + 2 := Int.natCast_add q 2
  rw [e3] at s3
  have x1 := row_ix (R := Q) (i := q) (by omega) (by omega)
  have x2 := row_ix (R := Q) (i := q + 1) hq (by omega)
  rw [Int.natCast_add] at x2
  have sg1 : ∀ l, sgD l = .str (rowS [l]) := fun l => rfl
  refine ⟨_, _, s2, x2, x1, s3, rfl, rfl, .str (rowS (Q.take q ++ [M.lt Q (q + 1)])), ?_, rfl, .str (rowS (Q.take q ++ [M.lt Q (q + 1)] ++ [M.lt Q q])), ?_, rfl, ?_⟩
  · rw [sg1]; exact add_rows (by simp; omega)
  · rw [sg1]; exact add_rows (by simp; omega)
  · rw [add_rows (by simp; omega)]
    congr 3
    unfold swapAt; simp
theorem sh_rowOk (hH : House h L) {Q : List Nat} (hQ : RowOk L Q) {n : Nat} : Sh n (rowD Q) := sh_strOk fun c hc => by
  have : c ∈ Q.map (97 + ·) := by simpa [rowS] using hc
  obtain ⟨r, hr, rfl⟩ := List.mem_map.mp this
  obtain ⟨e, he, rfl⟩ := hQ r hr
  have := hH.lt e he
  show 97 + e.1 < 0x110000
  omega
theorem ar_1 (H : House h L) (hR : RowOk L R) (hl : R.length ≤ 1000) {Bs : List Nat} (N : NeedOk L R Bs) (hN : (wdE Bs L R R.length).length ≤ 100000) {T Wt : List (List Nat)} {Q : List Nat} (B : BfW h L R T Wt) (hw : Wt.length ≤ T.length) (hQ : Q ∈ T) {q : Nat} (hq : q + 1 < Q.length) (g : Gone L T Wt Q q) {m : Nat} (hm : 2 * ((wdE Bs L R R.length).length - T.length) + Wt.length ≤ m) {v1 v5 v6 : Option D} :
    ∃ T' Wt' v6', stepS (gN 5) l__law_all_rows_1 (.int (q : Int)) [some (houD false h L), v1, some (dT true T), some (.lst true (Wt.map rowD)), some (.str (rowS Q)), v5, v6]
      = .nx [some (houD false h L), v1, some (dT true T'), some (.lst true (Wt'.map rowD)), some (.str (rowS Q)), some (.int (q : Int)), v6'] ∧ BfW h L R T' Wt' ∧ Wt'.length ≤ T'.length ∧ Q ∈ T' ∧ Gone L T' Wt' Q (q + 1) ∧ 2 * ((wdE Bs L R R.length).length - T'.length) + Wt'.length ≤ m := by
  obtain ⟨oQ, sQ, lQ⟩ := B.ok Q hQ
  obtain ⟨a, b, s1, x2, x1, s2, ia, ib, c, a1, ic, d, a2, id, a3⟩ := swap_row hq (by omega)
  have hg := hang_lt H oQ (i := q) (k := q + 1) (by omega) hq
  have ni := dT_nin (o := true) (T := T) (Q := swapAt Q q)
  have fH : frz (houD false h L) = houD false h L := by simp
  have lT := B.le H hR N
  have fs1 : frz (sgD (M.lt Q q)) = sgD (M.lt Q q) := rfl
  have fs2 : frz (sgD (M.lt Q (q + 1))) = sgD (M.lt Q (q + 1)) := rfl
  have is1 : isImm (sgD (M.lt Q q)) = true := rfl
  have is2 : isImm (sgD (M.lt Q (q + 1))) = true := rfl
  have n1 : gAdd (.int (q : Int)) (.int 1) = some (.int ((q : Int) + 1)) := rfl
  have n2 : gAdd (.int (q : Int)) (.int 2) = some (.int ((q : Int) + 2)) := rfl
  by_cases hh : Hang L (M.lt Q q) (M.lt Q (q + 1))
  · rw [hangB_iff.mpr hh] at hg
    refine ⟨T, Wt, v6, ?_, B, hw, hQ, ⟨g.dn, fun r h1 h2 h3 => ?_⟩, hm⟩
    · rw [ap_step]; unfold l__law_all_rows_1
      generalize dT true T = TD at *
      generalize Wt.map rowD = WD at *
      generalize houD false h L = HH at *
      generalize sgD (M.lt Q q) = S1 at *
      generalize sgD (M.lt Q (q + 1)) = S2 at *
      generalize rowS (swapAt Q q) = RX at *
      generalize rowS Q = RQ at *
      simp [-add_ii, n1, n2, s1, s2, x1, x2, ia, ib, ic, id, a1, a2, a3, fH, hg, fs1, fs2, is1, is2, ni]
    · by_cases z : r = q
      · subst z; exact (h3 hh).elim
      · exact g.pl r (by omega) h2 h3
  · have hb : hangB L (M.lt Q q) (M.lt Q (q + 1)) = false := by
      cases c : hangB L (M.lt Q q) (M.lt Q (q + 1)) with
      | true => exact (hh (hangB_iff.mp c)).elim
      | false => rfl
    rw [hb] at hg
    by_cases hin : swapAt Q q ∈ T
    · rw [decide_eq_true hin] at ni
      refine ⟨T, Wt, some (.str (rowS (swapAt Q q))), ?_, B, hw, hQ, ⟨g.dn, fun r h1 h2 h3 => ?_⟩, hm⟩
      · rw [ap_step]; unfold l__law_all_rows_1
        generalize dT true T = TD at *
        generalize Wt.map rowD = WD at *
        generalize houD false h L = HH at *
        generalize sgD (M.lt Q q) = S1 at *
        generalize sgD (M.lt Q (q + 1)) = S2 at *
        generalize rowS (swapAt Q q) = RX at *
        generalize rowS Q = RQ at *
        simp [-add_ii, n1, n2, s1, s2, x1, x2, ia, ib, ic, id, a1, a2, a3, fH, hg, fs1, fs2, is1, is2, ni]
      · by_cases z : r = q
        · subst z; exact hin
        · exact g.pl r (by omega) h2 h3
    · rw [decide_eq_false hin] at ni
      have nb := swapAt_nb hq hh
      have B' := B.add H hQ nb hin
      have lT' := B'.le H hR N
      rw [List.length_append, List.length_singleton] at lT'
      have pt := dT_put (T := T) (Q := swapAt Q q) (by unfold sizeLine; omega) hin
      have wl : (Wt.map rowD).length < sizeLine := by rw [List.length_map]; unfold sizeLine; omega
      have em : (Wt ++ [swapAt Q q]).map rowD = Wt.map rowD ++ [.str (rowS (swapAt Q q))] := by rw [List.map_append]; rfl
      refine ⟨T ++ [swapAt Q q], Wt ++ [swapAt Q q], ?_, ?_, B', ?_, List.mem_append_left _ hQ, ⟨(g.add _).dn, fun r h1 h2 h3 => ?_⟩, ?_⟩
      · exact some (.str (rowS (swapAt Q q)))
      · rw [em, ap_step]; unfold l__law_all_rows_1
        generalize dT true (T ++ [swapAt Q q]) = TD2 at *
        generalize dT true T = TD at *
        generalize Wt.map rowD = WD at *
        generalize houD false h L = HH at *
        generalize sgD (M.lt Q q) = S1 at *
        generalize sgD (M.lt Q (q + 1)) = S2 at *
        generalize rowS (swapAt Q q) = RX at *
        generalize rowS Q = RQ at *
        simp [-add_ii, n1, n2, s1, s2, x1, x2, ia, ib, ic, id, a1, a2, a3, fH, hg, fs1, fs2, is1, is2, ni, putR, pt, wl]
      · rw [List.length_append, List.length_append]; exact Nat.add_le_add_right hw _
      · by_cases z : r = q
        · subst z; exact List.mem_append_right _ (List.mem_singleton.mpr rfl)
        · exact List.mem_append_left _ (g.pl r (by omega) h2 h3)
      · rw [List.length_append, List.length_append, List.length_singleton]
        omega
theorem ar_2 (H : House h L) (hR : RowOk L R) (hl : R.length ≤ 1000) {Bs : List Nat} (N : NeedOk L R Bs) (hN : (wdE Bs L R R.length).length ≤ 100000) {T Wt : List (List Nat)} {Q : List Nat} (B : BfW h L R T (Wt ++ [Q])) (hw : Wt.length < T.length) (cl : ∀ X ∈ T, X ∈ Wt ++ [Q] ∨ ∀ P, NbR L X P → P ∈ T) {v1 v4 v5 v6 : Option D} :
    ∃ T' Wt' v4' v5' v6', l__law_all_rows_2 [some (houD false h L), v1, some (dT true T), some (.lst true ((Wt ++ [Q]).map rowD)), v4, v5, v6]
      = .nx [some (houD false h L), v1, some (dT true T'), some (.lst true (Wt'.map rowD)), v4', v5', v6'] ∧ BfW h L R T' Wt' ∧ Wt'.length ≤ T'.length ∧ (∀ X ∈ T', X ∈ Wt' ∨ ∀ P, NbR L X P → P ∈ T') ∧ 2 * ((wdE Bs L R R.length).length - T'.length) + Wt'.length < 2 * ((wdE Bs L R R.length).length - T.length) + (Wt ++ [Q]).length := by
  have hQ : Q ∈ T := B.sub Q (by simp)
  obtain ⟨oQ, sQ, lQ⟩ := B.ok Q hQ
  have B0 : BfW h L R T Wt := ⟨B.nd, B.root, B.ok, fun X hX => B.sub X (List.mem_append_left _ hX)⟩
  have lT := B.le H hR N
  obtain ⟨ρ', lp, T', Wt', v5', v6', e, B', w', q', g', m'⟩ := loopR (step := stepS (gN 5) l__law_all_rows_1) (n := Q.length - 1) (ρ := [some (houD false h L), v1, some (dT true T), some (.lst true (Wt.map rowD)), some (.str (rowS Q)), v5, v6])
    (fun q ρ => ∃ (T' Wt' : List (List Nat)) (v5' v6' : Option D), ρ = [some (houD false h L), v1, some (dT true T'), some (.lst true (Wt'.map rowD)), some (.str (rowS Q)), v5', v6'] ∧ BfW h L R T' Wt' ∧ Wt'.length ≤ T'.length ∧ Q ∈ T' ∧ Gone L T' Wt' Q q ∧ 2 * ((wdE Bs L R R.length).length - T'.length) + Wt'.length ≤ 2 * ((wdE Bs L R R.length).length - T.length) + Wt.length)
    ⟨T, Wt, v5, v6, rfl, B0, Nat.le_of_lt hw, hQ, ⟨fun X hX => (by
      rcases cl X hX with z | z
      · rcases List.mem_append.mp z with y | y
        · exact .inl y
        · exact .inr (.inl (List.mem_singleton.mp y))
      · exact .inr (.inr z)), fun q hq => (by omega)⟩, Nat.le_refl _⟩ (by
      rintro q ρ hq ⟨T', Wt', v5', v6', rfl, B', w', q', g', m'⟩
      obtain ⟨T2, W2, v62, e, B2, w2, q2, g2, m2⟩ := ar_1 H hR hl N hN B' w' q' (q := q) (by omega) g' m' (v1 := v1) (v5 := v5') (v6 := v6')
      exact ⟨_, e, T2, W2, _, _, rfl, B2, w2, q2, g2, m2⟩)
  subst e
  have pl := pop_last (ρ := [some (houD false h L), v1, some (dT true T), some (.lst true ((Wt ++ [Q]).map rowD)), v4, v5, v6]) (i := 3) (d := .str (rowS Q)) (xs := Wt.map rowD) (by rw [List.map_append]; rfl) rfl (by rw [List.length_map]; unfold sizeLine; omega)
  have ln : gLen [.str (rowS Q)] = some (.int (Q.length : Int)) := by rw [len_s, rowS_len, if_pos (by unfold sizeLine; omega)]
  have rn := rng1_m1 (n := Q.length) (by omega)
  refine ⟨T', Wt', some (.str (rowS Q)), v5', v6', ?_, B', w', g'.end, ?_⟩
  · unfold l__law_all_rows_2
    generalize dT true T' = TD2 at *
    generalize dT true T = TD at *
    generalize Wt.map rowD = WD at *
    generalize (Wt ++ [Q]).map rowD = WD2 at *
    generalize houD false h L = HH at *
    generalize rowS Q = RQ at *
    generalize ((List.range (Q.length - 1)).map fun i => D.int ((i : Nat) : Int)) = RG at *
    simp [-len_s, -ap_pop0, pl, ln, rn, lp]
  · rw [List.length_append, List.length_singleton]; omega
theorem allrows_spec (H : House h L) (hR : RowOk L R) (hl : R.length ≤ 1000) {Bs : List Nat} (N : NeedOk L R Bs) (hN : (wdE Bs L R R.length).length ≤ 100000) : ∃ T : List (List Nat), T.Nodup ∧ (∀ Q, Q ∈ T ↔ RowOk L Q ∧ Same h L Q R) ∧ T.length = (wdE Bs L R R.length).length ∧
    ∃ o v3 v4 v5 v6, whileS (fTv (vOp2 gNe (vVar 3) (vLst vNil))) l__law_all_rows_2 fuel [some (houD false h L), some (.str (rowS R)), some (dT true [R]), some (.lst true ([R].map rowD)), none, none, none] = .nx [some (houD false h L), some (.str (rowS R)), some (dT true T), some (.lst true v3), v4, v5, v6] ∧ o = true := by
  have B0 : BfW h L R [R] [R] := ⟨by simp, by simp, fun Q hQ => (by rw [List.mem_singleton] at hQ; subst hQ; exact ⟨hR, Same.refl, rfl⟩), fun Q hQ => hQ⟩
  obtain ⟨ρ', lp, T, v4, v5, v6, rfl, B, cl⟩ := while_nx (c := fTv (vOp2 gNe (vVar 3) (vLst vNil))) (g := l__law_all_rows_2)
    (fun m ρ => ∃ (T Wt : List (List Nat)) (v4 v5 v6 : Option D), ρ = [some (houD false h L), some (.str (rowS R)), some (dT true T), some (.lst true (Wt.map rowD)), v4, v5, v6] ∧ BfW h L R T Wt ∧ Wt.length ≤ T.length ∧ (∀ X ∈ T, X ∈ Wt ∨ ∀ P, NbR L X P → P ∈ T) ∧ m = 2 * ((wdE Bs L R R.length).length - T.length) + Wt.length)
    (fun ρ => ∃ (T : List (List Nat)) (v4 v5 v6 : Option D), ρ = [some (houD false h L), some (.str (rowS R)), some (dT true T), some (.lst true []), v4, v5, v6] ∧ BfW h L R T [] ∧ ClT L T) (by
      rintro m ρ ⟨T, Wt, v4, v5, v6, rfl, B, hw, cl, rfl⟩
      have ne : ∀ o', gNe (.lst true (Wt.map rowD)) (.lst o' []) = some (.bl (!decide (Wt = []))) := fun o' => ne_nil fun X hX => sh_rowOk H (B.ok X (B.sub X hX)).1
      by_cases c : Wt = []
      · subst c
        refine .inl ⟨_, ?_, T, v4, v5, v6, rfl, B, fun X hX P hP => ?_⟩
        · have ne := ne true
          simp at ne
          simp [ne]
        · rcases cl X hX with z | z
          · cases z
          · exact z P hP
      · obtain ⟨W', Q, rfl⟩ : ∃ W' Q, Wt = W' ++ [Q] := by
          rcases List.eq_nil_or_concat Wt with z | ⟨w', l, z⟩
          · exact (c z).elim
          · exact ⟨w', l, by simpa using z⟩
        obtain ⟨T', Wt', w4, w5, w6, e, B', w', cl', m'⟩ := ar_2 H hR hl N hN B (by rw [List.length_append, List.length_singleton] at hw; omega) cl (v1 := some (.str (rowS R))) (v4 := v4) (v5 := v5) (v6 := v6)
        refine .inr ⟨_, _, _, ?_, e, m', T', Wt', w4, w5, w6, rfl, B', w', cl', rfl⟩
        have ne := ne true
        rw [decide_eq_false c] at ne
        generalize (W' ++ [Q]).map rowD = WD at *
        simp [ne])
    (m := 2 * ((wdE Bs L R R.length).length - 1) + 1) (ρ := [some (houD false h L), some (.str (rowS R)), some (dT true [R]), some (.lst true ([R].map rowD)), none, none, none])
    ⟨[R], [R], none, none, none, rfl, B0, by simp, fun X hX => .inl hX, by simp⟩ (by unfold fuel; omega)
  refine ⟨T, B.nd, fun Q => ⟨fun hQ => ⟨(B.ok Q hQ).1, (B.ok Q hQ).2.1⟩, fun ⟨h1, h2⟩ => same_in H cl Q [] R h1 hR h2 B.root⟩, words_count H hR N B.nd (fun Q hQ => ⟨(B.ok Q hQ).1, (B.ok Q hQ).2.1⟩) B.root cl, true, [], v4, v5, v6, lp, rfl⟩
/-- four hands, a letter each -/
def L4 : List (Nat × List Nat) := [(0, [0]), (1, [1]), (2, [2]), (3, [3])]
theorem H4 : House 4 L4 := by
  refine ⟨by decide, by decide, by decide, by decide, by decide, by decide, fun e he => ?_⟩
  unfold L4 at he
  simp only [List.mem_cons, List.not_mem_nil, or_false] at he
  rcases he with rfl | rfl | rfl | rfl <;> exact ⟨by simp, by simp, by simp⟩
theorem hou4 : D.tup [.int 4, .lst true [.tup [.str "a", .lst true [.int 0]], .tup [.str "b", .lst true [.int 1]], .tup [.str "c", .lst true [.int 2]], .tup [.str "d", .lst true [.int 3]]]] = houD true 4 L4 := by kernel_rfl
def limk (k : Nat) : Nat := if k = 0 then 32 else 16
theorem lim_ix {k : Nat} (hk : k < 3) : gIx (.lst true [.int 32, .int 16, .int 16]) (.int (k : Int)) = some (.int ((limk k : Nat) : Int)) := by
  have : k = 0 ∨ k = 1 ∨ k = 2 := by omega
  rcases this with rfl | rfl | rfl <;> rfl
theorem lim_le {k : Nat} : limk k ≤ 32 := by unfold limk; split <;> omega
theorem rowOk_take {n : Nat} (hR : RowOk L R) : RowOk L (R.take n) := fun r hr => hR r (List.mem_of_mem_take hr)
theorem next_ex (H : House h L) (hR : RowOk L R) {Bs : List Nat} (N : NeedOk L R Bs) {b : Nat} (C : Cl L R b) (hb : cdB R.length b < R.length) : nextsB Bs L R b ≠ [] := by
  have ex : ∃ j, j < R.length ∧ b.testBit j = false := by
    refine Classical.byContradiction fun z => ?_
    have : (List.range R.length).filter b.testBit = List.range R.length := List.filter_eq_self.mpr fun j hj => by
      cases hbj : b.testBit j with
      | true => rfl
      | false => exact (z ⟨j, List.mem_range.mp hj, hbj⟩).elim
    unfold cdB at hb
    rw [this, List.length_range] at hb
    omega
  obtain ⟨j, h1, h2, h3⟩ : ∃ j, j < R.length ∧ b.testBit j = false ∧ ∀ q, q < j → b.testBit q = true := by
    obtain ⟨j, hj⟩ := ex
    induction j using Nat.strongRecOn with
    | _ j ih =>
      by_cases c : ∃ q, q < j ∧ b.testBit q = false
      · obtain ⟨q, q1, q2⟩ := c
        exact ih q q1 ⟨by omega, q2⟩
      · refine ⟨j, hj.1, hj.2, fun q hq => ?_⟩
        cases hbq : b.testBit q with
        | true => rfl
        | false => exact (c ⟨q, hq, hbq⟩).elim
  obtain ⟨a, ha⟩ := nxt_of H hR N C h1 h2 fun i hi => by
    have := hi.le
    by_cases z : i = j
    · exact .inl z
    · exact .inr (h3 i (by omega))
  intro z
  rw [z] at ha; cases ha
theorem len_flat_ge {α β : Type} {f : α → List β} : ∀ {l : List α}, (∀ x ∈ l, f x ≠ []) → l.length ≤ (l.flatMap f).length
  | [], _ => Nat.zero_le _
  | x :: l, hx => by
    have := len_flat_ge fun y hy => hx y (List.mem_cons_of_mem _ hy)
    have h1 := List.length_pos_iff.mpr (hx x List.mem_cons_self)
    rw [List.flatMap_cons, List.length_append, List.length_cons]; omega
theorem wd_mono (H : House h L) (hR : RowOk L R) {Bs : List Nat} (N : NeedOk L R Bs) {i : Nat} (hi : i < R.length) : (wdE Bs L R i).length ≤ (wdE Bs L R (i + 1)).length := by
  rw [wdE]
  refine len_flat_ge fun w hw => ?_
  have W := wd_ok H hR N i w hw
  have := next_ex H hR N W.cl (by rw [W.cd]; exact hi)
  unfold kidW
  intro z
  exact this (List.map_eq_nil_iff.mp z)
theorem wd_le (H : House h L) (hR : RowOk L R) {Bs : List Nat} (N : NeedOk L R Bs) : ∀ (d i : Nat), i + d = R.length → (wdE Bs L R i).length ≤ (wdE Bs L R R.length).length
  | 0, i, e => by rw [← e, Nat.add_zero]; exact Nat.le_refl _
  | d + 1, i, e => Nat.le_trans (wd_mono H hR N (by omega)) (wd_le H hR N d (i + 1) (by omega))
def tW (L : List (Nat × List Nat)) (R : List Nat) (w : List Nat × Nat) : D := .tup [.str (rowS w.1), kD (cnsR L R w.2), .int (w.2 : Int)]
@[simp] theorem frz_tW {w : List Nat × Nat} : frz (tW L R w) = tW L R w := by unfold tW; simp
@[simp] theorem imm_tW {w : List Nat × Nat} : isImm (tW L R w) = true := by unfold tW; simp
theorem od_1 (H : House h L) (hR : RowOk L R) (h32 : R.length ≤ 32) {w : List Nat × Nat} {i : Nat} (W : WOk h L R i w) (hw : w.1.length ≤ 1000) {x : Nat × Nat} (X : NxOk L R w.2 x.1 x.2) {acc : List (List Nat × Nat)} (ha : acc.length < sizeLine)
    {v0 v2 v3 v4 v5 v10 v11 v12 : Option D} : stepS (gT 2 (gsC (gN 10) (gsC (gN 11) gsN))) l_orders_1 (prD x) [v0, some (.str (rowS R)), v2, v3, v4, v5, some (.lst true (acc.map (tW L R))), some (.str (rowS w.1)), some (kD (cnsR L R w.2)), some (.int (w.2 : Int)), v10, v11, v12]
      = .nx [v0, some (.str (rowS R)), v2, v3, v4, v5, some (.lst true ((acc ++ [(w.1 ++ [lt R x.2], w.2 ||| 2 ^ x.2)]).map (tW L R))), some (.str (rowS w.1)), some (kD (cnsR L R w.2)), some (.int (w.2 : Int)), some (.int (x.1 : Int)), some (.int (x.2 : Int)), v12] := by
  obtain ⟨a, p⟩ := x
  have l6 := H.l6
  have hp := X.hp
  have mo := more_spec (c := cnsR L R w.2) (a := a) (by rw [cns_len]; exact X.ha) (by rw [cns_len]; omega)
  rw [X.more H] at mo
  have rx := row_ix (R := R) (i := p) X.hp (by omega)
  have ad : gAdd (.str (rowS w.1)) (sgD (lt R p)) = some (.str (rowS (w.1 ++ [lt R p]))) := by
    have : sgD (lt R p) = .str (rowS [lt R p]) := rfl
    rw [this]; exact add_rows (by simp; omega)
  have eb : gBor (.int (w.2 : Int)) (.int ((2 ^ p : Nat) : Int)) = some (.int ((w.2 ||| 2 ^ p : Nat) : Int)) := by rw [bor_ii, bor_nn]
  have es := shl_1 (p := p) (by omega)
  have em : (acc ++ [(w.1 ++ [lt R p], w.2 ||| 2 ^ p)]).map (tW L R) = acc.map (tW L R) ++ [.tup [.str (rowS (w.1 ++ [lt R p])), kD (cnsR L R (w.2 ||| 2 ^ p)), .int ((w.2 ||| 2 ^ p : Nat) : Int)]] := by
    rw [List.map_append]; rfl
  have al : (acc.map (tW L R)).length < sizeLine := by rw [List.length_map]; exact ha
  have s3 : (3 : Nat) ≤ sizeLine := by decide
  have fk := @frz_kD (cnsR L R w.2)
  have fk2 := @frz_kD (cnsR L R (w.2 ||| 2 ^ p))
  have ik2 := @imm_kD (cnsR L R (w.2 ||| 2 ^ p))
  rw [em, ap_step]; unfold l_orders_1 prD natD
  generalize acc.map (tW L R) = AC at *
  generalize kD (cnsR L R (w.2 ||| 2 ^ p)) = K2 at *
  generalize kD (cnsR L R w.2) = K1 at *
  generalize rowS (w.1 ++ [lt R p]) = R2 at *
  generalize rowS w.1 = R1 at *
  generalize sgD (lt R p) = SG at *
  generalize ((w.2 ||| 2 ^ p : Nat) : Int) = Z1 at *
  generalize ((2 ^ p : Nat) : Int) = Z2 at *
  simp [-shl_ii, -bor_ii, mo, rx, ad, eb, es, al, s3, fk, fk2, ik2]
theorem od_2 (H : House h L) (hR : RowOk L R) (h32 : R.length ≤ 32) {Bs : List Nat} (N : NeedOk L R Bs) {w : List Nat × Nat} {i : Nat} (W : WOk h L R i w) (hw : w.1.length ≤ 1000) {acc : List (List Nat × Nat)} (ha : acc.length + (kidW Bs L R w).length ≤ 1000) {o2 o3 : Bool}
    {v0 v4 v5 v7 v8 v9 v10 v11 v12 : Option D} : ∃ v10' v11', stepS (gT 3 (gsC (gN 7) (gsC (gN 8) (gsC (gN 9) gsN)))) l_orders_2 (tW L R w) [v0, some (.str (rowS R)), some (plD o2 L R), some (ownD o3 Bs), v4, v5, some (.lst true (acc.map (tW L R))), v7, v8, v9, v10, v11, v12]
      = .nx [v0, some (.str (rowS R)), some (plD false L R), some (ownD false Bs), v4, v5, some (.lst true ((acc ++ kidW Bs L R w).map (tW L R))), some (.str (rowS w.1)), some (kD (cnsR L R w.2)), some (.int (w.2 : Int)), v10', v11', v12] := by
  obtain ⟨ox, nx⟩ := next_spec N H hR h32 W.cl
  have kl : (kidW Bs L R w).length = (nextsB Bs L R w.2).length := by unfold kidW; rw [List.length_map]
  obtain ⟨ρ', lp, v10', v11', e, _⟩ := loopM (step := stepS (gT 2 (gsC (gN 10) (gsC (gN 11) gsN))) l_orders_1) (f := prD) (xs := nextsB Bs L R w.2) (ρ := [v0, some (.str (rowS R)), some (plD false L R), some (ownD false Bs), v4, v5, some (.lst true (acc.map (tW L R))), some (.str (rowS w.1)), some (kD (cnsR L R w.2)), some (.int (w.2 : Int)), v10, v11, v12])
    (fun j ρ => ∃ v10' v11', ρ = [v0, some (.str (rowS R)), some (plD false L R), some (ownD false Bs), v4, v5, some (.lst true ((acc ++ (kidW Bs L R w).take j).map (tW L R))), some (.str (rowS w.1)), some (kD (cnsR L R w.2)), some (.int (w.2 : Int)), v10', v11', v12] ∧ j ≤ (nextsB Bs L R w.2).length)
    ⟨v10, v11, by simp, Nat.zero_le _⟩ (by
      rintro j x ρ hj ⟨v10', v11', rfl, _⟩
      have hjl := (List.getElem?_eq_some_iff.mp hj).1
      have X := nxt_ok H hR N W.cl (a := x.1) (p := x.2) (List.mem_of_getElem? hj)
      have e := od_1 H hR h32 W hw X (acc := acc ++ (kidW Bs L R w).take j) (by rw [List.length_append, List.length_take]; unfold sizeLine; omega) (v0 := v0) (v2 := some (plD false L R)) (v3 := some (ownD false Bs)) (v4 := v4) (v5 := v5) (v10 := v10') (v11 := v11') (v12 := v12)
      have et : (kidW Bs L R w).take (j + 1) = (kidW Bs L R w).take j ++ [(w.1 ++ [lt R x.2], w.2 ||| 2 ^ x.2)] := by
        rw [List.take_add_one]
        congr 1
        unfold kidW
        rw [List.getElem?_map, hj]; rfl
      exact ⟨_, e, _, _, by rw [et, List.append_assoc], hjl⟩)
  subst e
  have et : (kidW Bs L R w).take (nextsB Bs L R w.2).length = kidW Bs L R w := by rw [← kl, List.take_length]
  rw [et] at lp
  refine ⟨v10', v11', ?_⟩
  have fp : frz (plD o2 L R) = plD false L R := frz_pl
  have fb : frz (ownD o3 Bs) = ownD false Bs := frz_own
  have fp1 : frz (plD false L R) = plD false L R := frz_pl
  have fb1 : frz (ownD false Bs) = ownD false Bs := frz_own
  have fk := @frz_kD (cnsR L R w.2)
  have it : itemsL (D.lst true ((nextsB Bs L R w.2).map prD)) = some ((nextsB Bs L R w.2).map prD) := by
    rw [items_l, frzs_mapf (f := prD) (g := prD) fun _ _ => rfl]
  rw [ap_step]; unfold l_orders_2 tW
  unfold tW at lp
  generalize (nextsB Bs L R w.2).map prD = NX at *
  generalize (acc ++ kidW Bs L R w).map (fun w => D.tup [.str (rowS w.1), kD (cnsR L R w.2), .int (w.2 : Int)]) = A2 at *
  generalize acc.map (fun w => D.tup [.str (rowS w.1), kD (cnsR L R w.2), .int (w.2 : Int)]) = A1 at *
  generalize kD (cnsR L R w.2) = K1 at *
  generalize plD false L R = P1 at *
  generalize plD o2 L R = P2 at *
  generalize ownD false Bs = B1 at *
  generalize ownD o3 Bs = B2 at *
  simp [nx, it, fk, fp, fb, fp1, fb1, lp]
theorem cd_le {n b : Nat} : cdB n b ≤ n := by
  unfold cdB
  exact Nat.le_trans (List.length_filter_le _ _) (by rw [List.length_range]; exact Nat.le_refl _)
theorem od_2s (H : House h L) (hR : RowOk L R) (h32 : R.length ≤ 32) {Bs : List Nat} (N : NeedOk L R Bs) {j : Nat} (hs : (wdE Bs L R (j + 1)).length ≤ 1000) {o2 o3 : Bool}
    {v0 v4 v5 v7 v8 v9 v10 v11 v12 : Option D} : ∃ o2' o3' v7' v8' v9' v10' v11', loopS (stepS (gT 3 (gsC (gN 7) (gsC (gN 8) (gsC (gN 9) gsN)))) l_orders_2) ((wdE Bs L R j).map (tW L R)) [v0, some (.str (rowS R)), some (plD o2 L R), some (ownD o3 Bs), v4, v5, some (.lst true []), v7, v8, v9, v10, v11, v12]
      = .nx [v0, some (.str (rowS R)), some (plD o2' L R), some (ownD o3' Bs), v4, v5, some (.lst true ((wdE Bs L R (j + 1)).map (tW L R))), v7', v8', v9', v10', v11', v12] ∧ (wdE Bs L R j = [] ∨ (immO (some v7') = true ∧ immO (some v8') = true ∧ immO (some v9') = true)) := by
  have wl : ∀ i, ∀ w ∈ wdE Bs L R i, w.1.length = i := by
    intro i
    induction i with
    | zero => intro w hw; rw [wdE, List.mem_singleton] at hw; subst hw; rfl
    | succ i ih =>
      intro w hw
      rw [wdE, List.mem_flatMap] at hw
      obtain ⟨v, hv, hw⟩ := hw
      obtain ⟨ap, _, rfl⟩ := List.mem_map.mp hw
      show (v.1 ++ [_]).length = _
      rw [List.length_append, ih v hv]; rfl
  obtain ⟨ρ', lp, acc', o2', o3', w7, w8, w9, w10, w11, e0, _, ef, i789⟩ := loopL (step := stepS (gT 3 (gsC (gN 7) (gsC (gN 8) (gsC (gN 9) gsN)))) l_orders_2) (f := tW L R)
    (fun xs ρ => ∃ (acc' : List (List Nat × Nat)) (o2' o3' : Bool) (w7 w8 w9 w10 w11 : Option D), ρ = [v0, some (.str (rowS R)), some (plD o2' L R), some (ownD o3' Bs), v4, v5, some (.lst true (acc'.map (tW L R))), w7, w8, w9, w10, w11, v12] ∧ (∀ x ∈ xs, x ∈ wdE Bs L R j) ∧ acc' ++ xs.flatMap (kidW Bs L R) = wdE Bs L R (j + 1) ∧ (xs = wdE Bs L R j ∨ (immO (some w7) = true ∧ immO (some w8) = true ∧ immO (some w9) = true)))
    (wdE Bs L R j) _ ⟨[], o2, o3, v7, v8, v9, v10, v11, rfl, fun _ z => z, rfl, .inl rfl⟩ (by
      rintro w xs ρ ⟨acc', o2', o3', w7, w8, w9, w10, w11, rfl, hx, ef, _⟩
      have hm := hx w List.mem_cons_self
      have W := wd_ok H hR N j w hm
      have lw := wl j w hm
      have lcd : j ≤ 32 := by have := W.cd; have := cd_le (n := R.length) (b := w.2); omega
      have la : acc'.length + (kidW Bs L R w).length ≤ 1000 := by
        rw [← ef, List.flatMap_cons, List.length_append, List.length_append] at hs
        omega
      obtain ⟨w10', w11', e⟩ := od_2 H hR h32 N W (by omega) la (o2 := o2') (o3 := o3') (v0 := v0) (v4 := v4) (v5 := v5) (v7 := w7) (v8 := w8) (v9 := w9) (v10 := w10) (v11 := w11) (v12 := v12)
      exact ⟨_, e, _, _, _, _, _, _, _, _, rfl, fun y hy => hx y (List.mem_cons_of_mem _ hy), by rw [← ef, List.flatMap_cons, List.append_assoc], .inr ⟨rfl, by show isImm (kD _) = true; simp, rfl⟩⟩)
  subst e0
  have ef : acc' = wdE Bs L R (j + 1) := by simpa using ef
  rw [ef] at lp
  refine ⟨o2', o3', w7, w8, w9, w10, w11, lp, ?_⟩
  rcases i789 with z | z
  · exact .inl z.symm
  · exact .inr z
theorem od_3 (H : House h L) (hR : RowOk L R) (h32 : R.length ≤ 32) {Bs : List Nat} (N : NeedOk L R Bs) {j : Nat} (hs : (wdE Bs L R (j + 1)).length ≤ 1000) {o o2 o3 : Bool} {d : D}
    {v0 v5 v6 v7 v8 v9 v10 v11 v12 : Option D} : ∃ o2' o3' v6' v7' v8' v9' v10' v11', stepS (gN 5) l_orders_3 d [v0, some (.str (rowS R)), some (plD o2 L R), some (ownD o3 Bs), some (.lst o ((wdE Bs L R j).map (tW L R))), v5, v6, v7, v8, v9, v10, v11, v12]
      = .nx [v0, some (.str (rowS R)), some (plD o2' L R), some (ownD o3' Bs), some (.lst false ((wdE Bs L R (j + 1)).map (tW L R))), some d, v6', v7', v8', v9', v10', v11', v12] ∧ (wdE Bs L R j = [] ∨ (immO (some v7') = true ∧ immO (some v8') = true ∧ immO (some v9') = true)) := by
  have fo : ∀ (o : Bool) (l : List (List Nat × Nat)), frz (D.lst o (l.map (tW L R))) = .lst false (l.map (tW L R)) := fun o l => by rw [frz_lst, frzs_mapf (f := tW L R) (g := tW L R) fun _ _ => frz_tW]
  obtain ⟨o2', o3', w7, w8, w9, w10, w11, lp, i789⟩ := od_2s H hR h32 N hs (o2 := o2) (o3 := o3) (v0 := v0) (v4 := some (.lst false ((wdE Bs L R j).map (tW L R)))) (v5 := some d) (v7 := v7) (v8 := v8) (v9 := v9) (v10 := v10) (v11 := v11) (v12 := v12)
  refine ⟨o2', o3', some (.lst false ((wdE Bs L R (j + 1)).map (tW L R))), w7, w8, w9, w10, w11, ?_, i789⟩
  have f1 := fo o (wdE Bs L R j)
  have f2 := fo true (wdE Bs L R (j + 1))
  have it : itemsL (D.lst false ((wdE Bs L R j).map (tW L R))) = some ((wdE Bs L R j).map (tW L R)) := by
    rw [items_l, frzs_mapf (f := tW L R) (g := tW L R) fun _ _ => frz_tW]
  rw [ap_step]; unfold l_orders_3
  generalize D.lst true ((wdE Bs L R (j + 1)).map (tW L R)) = L2 at *
  generalize D.lst false ((wdE Bs L R (j + 1)).map (tW L R)) = L3 at *
  generalize D.lst o ((wdE Bs L R j).map (tW L R)) = L0 at *
  generalize D.lst false ((wdE Bs L R j).map (tW L R)) = L1 at *
  generalize (wdE Bs L R j).map (tW L R) = LS at *
  generalize plD o2 L R = P1 at *
  generalize plD o2' L R = P2 at *
  generalize ownD o3 Bs = B1 at *
  generalize ownD o3' Bs = B2 at *
  simp [f1, f2, it, lp]
def sortedW (ws : List (List Nat)) : D := .lst true ((sortS (ws.map rowS)).map D.str)
theorem strsD_rows : ∀ ws : List (List Nat), strsD (ws.map rowD) = some (ws.map rowS)
  | [] => rfl
  | w :: ws => by
    have ih := strsD_rows ws
    rw [List.map_cons, List.map_cons]
    show (strsD (ws.map rowD)).map _ = _
    rw [ih]; rfl
theorem sort_rows {o : Bool} (ws : List (List Nat)) : gSortSX [.lst o (ws.map rowD)] = some (sortedW ws) := by
  show (strsD (ws.map rowD)).bind _ = _
  rw [strsD_rows]; rfl
theorem sort_same {ws vs : List (List Nat)} (p : ws.Perm vs) : sortedW ws = sortedW vs := by
  unfold sortedW
  have : sortS (ws.map rowS) = sortS (vs.map rowS) := sorted_uniq (((sortS_perm _).trans (p.map rowS)).trans (sortS_perm _).symm) (sortS_sorted _) (sortS_sorted _)
  rw [this]
theorem too_many (H : House h L) (hR : RowOk L R) (h32 : R.length ≤ 32) {Bs : List Nat} (N : NeedOk L R Bs) (tb : m_bits_below [houD false h L, .str (rowS R)] = .rt (.lst true (Bs.map natD)) [none, none]) (hm : 500 < sumE (layE Bs L R R.length)) : m_orders [houD false h L, .str (rowS R)] = .exc ⟨"TooMany", []⟩ [none, none] := by
  obtain ⟨o, t⟩ := counted_spec H hR h32 N tb
  have lb := both_spec H hR (R := R) (by omega)
  have fH : frz (houD false h L) = houD false h L := by simp
  have hm' : (500 : Int) < (sumE (layE Bs L R R.length) : Int) := by omega
  unfold m_orders; rw [semOf_ap]; unfold b_orders
  generalize (sumE (layE Bs L R R.length) : Int) = SE at *
  generalize (pastsE Bs L R R.length : Int) = PE at *
  generalize houD false h L = HH at *
  have ix : gIxI (.tup [.int SE, .int PE]) (.int 0) = some (.int SE) := ixI_of (by rw [ix_t, at_0]; rfl) rfl
  simp [fH, lb, t, ix, hm']
theorem orders_spec (H : House h L) (hR : RowOk L R) (h32 : R.length ≤ 32) {Bs : List Nat} (N : NeedOk L R Bs) (tb : m_bits_below [houD false h L, .str (rowS R)] = .rt (.lst true (Bs.map natD)) [none, none]) (hm : sumE (layE Bs L R R.length) ≤ 500) : m_orders [houD false h L, .str (rowS R)] = .rt (sortedW ((wdE Bs L R R.length).map (·.1))) [none, none] := by
  obtain ⟨o, t⟩ := counted_spec H hR h32 N tb
  have h6 := H.l6
  have lb := both_spec H hR (R := R) (by omega)
  have pl := places_spec H (R := R) (by omega)
  have fH : frz (houD false h L) = houD false h L := by simp
  have hm' : ¬ (500 : Int) < (sumE (layE Bs L R R.length) : Int) := by omega
  rw [sum_words H hR N] at hm
  have hs : ∀ j, j ≤ R.length → (wdE Bs L R j).length ≤ 1000 := fun j hj => Nat.le_trans (wd_le H hR N (R.length - j) j (by omega)) (by omega)
  have wp : ∀ j, j ≤ R.length → wdE Bs L R j ≠ [] := by
    intro j
    induction j with
    | zero => intro _ z; rw [wdE] at z; cases z
    | succ j ih =>
      intro hj z
      have h1 := List.length_pos_iff.mpr (ih (by omega))
      have h2 := wd_mono H hR N (i := j) (by omega)
      rw [z] at h2
      simp at h2
      exact ih (by omega) h2
  obtain ⟨ρ', lp, o4, o2, o3, v5, v6, v7, v8, v9, v10, v11, e, i7, i8, i9⟩ := loopM (step := stepS (gN 5) l_orders_3) (f := sgD) (xs := R) (ρ := [some (houD false h L), some (.str (rowS R)), some (plD false L R), some (ownD true Bs), some (.lst true ((wdE Bs L R 0).map (tW L R))), none, none, none, none, none, none, none, none])
    (fun j ρ => ∃ (o4 o2 o3 : Bool) (v5 v6 v7 v8 v9 v10 v11 : Option D), ρ = [some (houD false h L), some (.str (rowS R)), some (plD o2 L R), some (ownD o3 Bs), some (.lst o4 ((wdE Bs L R j).map (tW L R))), v5, v6, v7, v8, v9, v10, v11, none] ∧ immO (some v7) = true ∧ immO (some v8) = true ∧ immO (some v9) = true)
    ⟨true, false, true, none, none, none, none, none, none, none, rfl, rfl, rfl, rfl⟩ (by
      rintro j x ρ hj ⟨o4, o2, o3, v5, v6, v7, v8, v9, v10, v11, rfl, _, _, _⟩
      have hjl := (List.getElem?_eq_some_iff.mp hj).1
      obtain ⟨_, _, _, _, _, _, _, _, e, i⟩ := od_3 H hR h32 N (hs (j + 1) (by omega)) (o := o4) (o2 := o2) (o3 := o3) (d := sgD x) (v0 := some (houD false h L)) (v5 := v5) (v6 := v6) (v7 := v7) (v8 := v8) (v9 := v9) (v10 := v10) (v11 := v11) (v12 := none)
      rcases i with z | ⟨a, b, c⟩
      · exact (wp j (by omega) z).elim
      · exact ⟨_, e, _, _, _, _, _, _, _, _, _, _, rfl, a, b, c⟩)
  subst e
  have its : itemsS (.str (rowS R)) = some (R.map sgD) := by
    show some (strD (rowS R)) = _
    rw [strD_row]
  have itp : itemsL (plD false L R) = some ((plL L R).map (ownD false)) := pl_items
  have fp : frz (plD true L R) = plD false L R := frz_pl
  have l6 : (plL L R).length ≤ sizeLine := by unfold plL; rw [List.length_map]; exact Nat.le_trans h6 (by decide)
  have lcz : fLc (fIt itemsL (fVar 2)) (gN 12) fYes (fK (.int 0)) [12] [some (houD false h L), some (.str (rowS R)), some (plD true L R), some (ownD true Bs), none, none, none, none, none, none, none, none, none]
      = .ok (.lst true ((plL L R).map fun _ => D.int 0)) [some (houD false h L), some (.str (rowS R)), some (plD false L R), some (ownD true Bs), none, none, none, none, none, none, none, none, none] := by
    refine lc_all (xs := plL L R) (g := ownD false) (e := fun _ => .int 0) ?_ (by simp) l6 fun x _ => ?_
    · generalize plD true L R = P1 at *
      generalize plD false L R = P2 at *
      simp [itp, fp]
    · exact ⟨[some (houD false h L), some (.str (rowS R)), some (plD false L R), some (ownD true Bs), none, none, none, none, none, none, none, none, some (ownD false x)], by simp, [some (houD false h L), some (.str (rowS R)), some (plD false L R), some (ownD true Bs), none, none, none, none, none, none, none, none, some (ownD false x)], by simp, by simp⟩
  have lz : (plL L R).map (fun _ => D.int 0) = (L.map fun _ => 0).map natD := by unfold plL; rw [List.map_map, List.map_map]; rfl
  rw [lz] at lcz
  have gt : gTuple [.lst true ((L.map fun _ => 0).map natD)] = some (kD (L.map fun _ => 0)) := by
    show (if isImms ((L.map fun _ => 0).map natD) = true then _ else _) = _
    rw [if_pos imms_nats]; rfl
  have w0 : D.lst true ((wdE Bs L R 0).map (tW L R)) = .lst true [.tup [.str "", kD (L.map fun _ => 0), .int 0]] := by
    show D.lst true [.tup [.str (rowS []), kD (cnsR L R 0), .int ((0 : Nat) : Int)]] = _
    rw [cns_zero, ← rowS_nil]; rfl
  rw [w0] at lp
  have fK := @frz_kD (L.map fun _ => 0)
  have iK := @imm_kD (L.map fun _ => 0)
  have s1 : (1 : Nat) ≤ sizeLine := by decide
  have s3 : (3 : Nat) ≤ sizeLine := by decide
  have fN : frz (D.lst o4 ((wdE Bs L R R.length).map (tW L R))) = .lst false ((wdE Bs L R R.length).map (tW L R)) := by rw [frz_lst, frzs_mapf (f := tW L R) (g := tW L R) fun _ _ => frz_tW]
  have itN : itemsL (D.lst false ((wdE Bs L R R.length).map (tW L R))) = some ((wdE Bs L R R.length).map (tW L R)) := by
    rw [items_l, frzs_mapf (f := tW L R) (g := tW L R) fun _ _ => frz_tW]
  have lcW : fLc (fIt itemsL (fVar 4)) (gT 3 (gsC (gN 7) (gsC (gN 8) (gsC (gN 9) gsN)))) fYes (fVar 7) [7, 8, 9] [some (houD false h L), some (.str (rowS R)), some (plD o2 L R), some (ownD o3 Bs), some (.lst o4 ((wdE Bs L R R.length).map (tW L R))), v5, v6, v7, v8, v9, v10, v11, none]
      = .ok (.lst true (((wdE Bs L R R.length).map (·.1)).map rowD)) [some (houD false h L), some (.str (rowS R)), some (plD o2 L R), some (ownD o3 Bs), some (.lst false ((wdE Bs L R R.length).map (tW L R))), v5, v6, v7, v8, v9, v10, v11, none] := by
    rw [List.map_map]
    refine lc_all (xs := wdE Bs L R R.length) (g := tW L R) (e := fun w => rowD w.1) ?_ ?_ (Nat.le_trans (hs R.length (Nat.le_refl _)) (by decide)) fun w _ => ?_
    · generalize D.lst o4 ((wdE Bs L R R.length).map (tW L R)) = L4 at *
      generalize D.lst false ((wdE Bs L R R.length).map (tW L R)) = L5 at *
      simp [fN, itN]
    · simp [i7, i8, i9]
    · generalize D.lst false ((wdE Bs L R R.length).map (tW L R)) = L5 at *
      refine ⟨[some (houD false h L), some (.str (rowS R)), some (plD o2 L R), some (ownD o3 Bs), some L5, v5, v6, some (.str (rowS w.1)), some (kD (cnsR L R w.2)), some (.int (w.2 : Int)), v10, v11, none], ?_, [some (houD false h L), some (.str (rowS R)), some (plD o2 L R), some (ownD o3 Bs), some L5, v5, v6, some (.str (rowS w.1)), some (kD (cnsR L R w.2)), some (.int (w.2 : Int)), v10, v11, none], ?_, ?_⟩
      · unfold tW; simp
      · simp [rowD]
      · simp
  have so := sort_rows (o := true) ((wdE Bs L R R.length).map (·.1))
  have bo : D.lst true (Bs.map natD) = ownD true Bs := rfl
  rw [bo] at tb
  unfold m_orders; rw [semOf_ap]; unfold b_orders
  generalize sortedW ((wdE Bs L R R.length).map (·.1)) = SW at *
  generalize D.lst true (((wdE Bs L R R.length).map (·.1)).map rowD) = WR at *
  generalize D.lst o4 ((wdE Bs L R R.length).map (tW L R)) = L4 at *
  generalize D.lst false ((wdE Bs L R R.length).map (tW L R)) = L5 at *
  generalize (sumE (layE Bs L R R.length) : Int) = SE at *
  generalize (pastsE Bs L R R.length : Int) = PE at *
  generalize houD false h L = HH at *
  generalize plD true L R = P1 at *
  generalize plD false L R = P2 at *
  generalize plD o2 L R = P3 at *
  generalize ownD true Bs = B1 at *
  generalize ownD o3 Bs = B2 at *
  generalize (L.map fun _ => 0).map natD = LZ at *
  generalize kD (L.map fun _ => 0) = KD at *
  generalize R.map sgD = RS at *
  have ix : gIxI (.tup [.int SE, .int PE]) (.int 0) = some (.int SE) := ixI_of (by rw [ix_t, at_0]; rfl) rfl
  simp [fH, lb, t, ix, hm', pl, tb, lcz, gt, fK, iK, s1, s3, its, lp, lcW, so]
theorem arspec24 (H : House h L) (hR : RowOk L R) (hl : R.length ≤ 1000) {Bs : List Nat} (N : NeedOk L R Bs) (hN : (wdE Bs L R R.length).length ≤ 100000) : m__law_all_rows [houD false h L, .str (rowS R)] = .rt (sortedW ((wdE Bs L R R.length).map (·.1))) [none, none] := by
  obtain ⟨T, nd, mem, lT, o, v3, v4, v5, v6, lp, _⟩ := allrows_spec H hR hl N hN
  have d0 : (D.dct true [Sum.inr (rowS R)] [.bl true]) = dT true [R] := rfl
  have e3 : ([R].map rowD) = [.str (rowS R)] := rfl
  rw [e3] at lp
  have pm : T.Perm ((wdE Bs L R R.length).map (·.1)) := (List.perm_ext_iff_of_nodup nd (words_nodup H hR N)).mpr fun Q => by rw [mem, words_all H hR N]
  have fd : frz (dT true T) = dT false T := by
    unfold dT
    show D.dct false _ (frzs _) = _
    rw [frzs_mapf (f := fun _ : List Nat => D.bl true) (g := fun _ => D.bl true) fun _ _ => rfl]
  have sk : ∀ T : List (List Nat), strKs (T.map kk) = some (T.map rowS) := fun T => by
    induction T with
    | nil => rfl
    | cons a T ih =>
      rw [List.map_cons, List.map_cons]
      show (strKs (T.map kk)).map _ = _
      rw [ih]; rfl
  have so : gSortDX [dT false T] = some (sortedW ((wdE Bs L R R.length).map (·.1))) := by
    show (strKs (T.map kk)).map _ = _
    rw [sk, ← sort_same pm]; rfl
  have s1 : 1 ≤ sizeLine := by decide
  unfold m__law_all_rows; rw [semOf_ap]; unfold b__law_all_rows fD1K
  generalize sortedW ((wdE Bs L R R.length).map (·.1)) = SW at *
  generalize houD false h L = HH at *
  generalize dT true T = TD at *
  generalize dT false T = TF at *
  generalize dT true [R] = T0 at *
  simp [Hap.keyOf, d0, s1, lp, fd, so]
theorem need_of (H : House h L) (hR : RowOk L R) (hl : R.length ≤ 1000) : ∃ Bs : List Nat, m_bits_below [houD false h L, .str (rowS R)] = .rt (.lst true (Bs.map natD)) [none, none] ∧ NeedOk L R Bs := by
  obtain ⟨Bs, t, l, hB⟩ := bits_spec H hR hl
  refine ⟨Bs, t, l, fun j hj i => ?_⟩
  refine hB j _ ?_ i
  rw [List.getD_eq_getElem?_getD, List.getElem?_eq_getElem (by omega)]; rfl
theorem asked_many (hm : m_orders [houD false h L, .str (rowS R)] = .exc ⟨"TooMany", []⟩ [none, none]) : m__law_asked [houD false h L, .str (rowS R)] = .rt (.str "TooMany") [none, none] := by
  have fH : frz (houD false h L) = houD false h L := by simp
  unfold m__law_asked; rw [semOf_ap]; unfold b__law_asked
  generalize houD false h L = HH at *
  simp [fH, hm]
theorem asked_rows {d : D} (hm : m_orders [houD false h L, .str (rowS R)] = .rt d [none, none]) : m__law_asked [houD false h L, .str (rowS R)] = .rt d [none, none] := by
  have fH : frz (houD false h L) = houD false h L := by simp
  unfold m__law_asked; rw [semOf_ap]; unfold b__law_asked
  generalize houD false h L = HH at *
  simp [fH, hm]
theorem sorted_mem {ws : List (List Nat)} {x : Str} : x ∈ sortS (ws.map rowS) ↔ ∃ w ∈ ws, rowS w = x := by
  rw [(sortS_perm _).mem_iff, List.mem_map]
def law24t : Ev → RS := (fSeq (fAsg (fOp2 gIxI (fCall 2 m__law_counted (fCons (fVar 3) (fCons (fVar 4) fNil))) (fK (.int 0))) (gN 5))
    (fSeq (fAsg (fCall 2 m__law_asked (fCons (fVar 3) (fCons (fVar 4) fNil))) (gN 6))
    (fIf (fTv (vOp2 gGt (vVar 5) (vK (.int 500))))
    (fIf (fTv (vOp2 gNe (vVar 6) (vK (.str "TooMany"))))
    (fRet (fK (.bl false)))
    fNext)
    (fSeq (fAsg (fCall 2 m__law_all_rows (fCons (fVar 3) (fCons (fVar 4) fNil))) (gN 7))
    (fSeq (fIf (fOr (fNot (fTv (vOpN gIsi (vCons (vVar 6) (vCons (vK (.gv (.ty "list"))) vNil))))) (fOr (fNot (fTb (fLook (fOpN gAll (fCons (fLc (fIt itemsL (fVar 6)) (gN 8) fYes (fI (vOpN gIsi (vCons (vVar 8) (vCons (vK (.gv (.ty "str"))) vNil)))) [8]) fNil))))) (fTv (vOp2 gNe (vVar 6) (vVar 7)))))
    (fRet (fK (.bl false)))
    fNext)
    (fSeq (fAppend 6 (fCons (fK (.str "")) fNil))
    (fIf (fTb (fOp2V gNe (fCall 2 m__law_asked (fCons (fVar 3) (fCons (fVar 4) fNil))) (vVar 7)))
    (fRet (fK (.bl false)))
    fNext)))))))
theorem tail24 (H : House h L) (hR : RowOk L R) (h32 : R.length ≤ 32) {SC K1 BG : D} {v5 v6 v7 : Option D} : ∃ v5' v6' v7', law24t [some SC, some K1, some BG, some (houD false h L), some (.str (rowS R)), v5, v6, v7, none] = .nx [some SC, some K1, some BG, some (houD false h L), some (.str (rowS R)), v5', v6', v7', none] := by
  obtain ⟨Bs, tb, N⟩ := need_of H hR (R := R) (by omega)
  obtain ⟨o1, t1⟩ := lawcounted_spec H hR h32 N
  have fH : frz (houD false h L) = houD false h L := by simp
  have ix : gIxI (.tup [.int (sumE (layE Bs L R R.length) : Int), .int (pastsE Bs L R R.length : Int)]) (.int 0) = some (.int (sumE (layE Bs L R R.length) : Int)) := ixI_of (by rw [ix_t, at_0]; rfl) rfl
  by_cases c : 500 < sumE (layE Bs L R R.length)
  · have a := asked_many (too_many H hR h32 N tb c)
    have c' : (500 : Int) < (sumE (layE Bs L R R.length) : Int) := by omega
    have nm : gNe (.str "TooMany") (.str "TooMany") = some (.bl false) := by kernel_rfl
    refine ⟨some (.int (sumE (layE Bs L R R.length) : Int)), some (.str "TooMany"), v7, ?_⟩
    unfold law24t
    generalize (sumE (layE Bs L R R.length) : Int) = SE at *
    generalize (pastsE Bs L R R.length : Int) = PE at *
    generalize houD false h L = HH at *
    simp [fH, t1, ix, a, c', nm]
  · have c' : ¬ (500 : Int) < (sumE (layE Bs L R R.length) : Int) := by omega
    have a := asked_rows (orders_spec H hR h32 N tb (by omega))
    have hN : (wdE Bs L R R.length).length ≤ 500 := by rw [← sum_words H hR N]; omega
    have ar := arspec24 H hR (by omega) N (by omega)
    obtain ⟨ws, hws⟩ : ∃ ws, ws = (wdE Bs L R R.length).map (·.1) := ⟨_, rfl⟩
    have lw : ws.length ≤ 500 := by rw [hws, List.length_map]; exact hN
    have okw : ∀ x ∈ sortS (ws.map rowS), Sh 60 (D.str x) := fun x hx => by
      obtain ⟨w, hw, rfl⟩ := sorted_mem.mp hx
      rw [hws] at hw
      exact sh_rowOk H ((words_all H hR N).mp hw).1
    have ls : (sortS (ws.map rowS)).length ≤ 500 := by rw [(sortS_perm _).length_eq, List.length_map]; exact lw
    rw [← hws] at a ar
    have ne : ∀ o o', gNe (.lst o ((sortS (ws.map rowS)).map D.str)) (.lst o' ((sortS (ws.map rowS)).map D.str)) = some (.bl false) := fun o o' => by
      have e : gEq (.lst o ((sortS (ws.map rowS)).map D.str)) (.lst o' ((sortS (ws.map rowS)).map D.str)) = some (.bl (decide (sortS (ws.map rowS) = sortS (ws.map rowS)))) := eq_map (f := D.str) eqd_str okw okw
      unfold gNe; rw [e]; simp
    have isl : gIsi [D.lst true ((sortS (ws.map rowS)).map D.str), .gv (.ty "list")] = some (.bl true) := rfl
    have fL : frz (D.lst true ((sortS (ws.map rowS)).map D.str)) = .lst false ((sortS (ws.map rowS)).map D.str) := by rw [frz_lst, frzs_mapf (f := D.str) (g := D.str) fun _ _ => rfl]
    have itL : itemsL (D.lst false ((sortS (ws.map rowS)).map D.str)) = some ((sortS (ws.map rowS)).map D.str) := by rw [items_l, frzs_mapf (f := D.str) (g := D.str) fun _ _ => rfl]
    have al : ((sortS (ws.map rowS)).map D.str).length < sizeLine := by rw [List.length_map]; unfold sizeLine; omega
    have fz : frzs ((sortS (ws.map rowS)).map D.str) = (sortS (ws.map rowS)).map D.str := frzs_mapf (f := D.str) (g := D.str) fun _ _ => rfl
    have fLf : frz (D.lst false ((sortS (ws.map rowS)).map D.str)) = .lst false ((sortS (ws.map rowS)).map D.str) := by rw [frz_lst, fz]
    have lcI : ∀ (q1 q2 q3 : D) (v5 v7 : Option D), fLc (fIt itemsL (fVar 6)) (gN 8) fYes (fI (vOpN gIsi (vCons (vVar 8) (vCons (vK (.gv (.ty "str"))) vNil)))) [8] [some q1, some q2, some q3, some (houD false h L), some (.str (rowS R)), v5, some (.lst false ((sortS (ws.map rowS)).map D.str)), v7, none]
        = .ok (.lst true ((sortS (ws.map rowS)).map fun _ => .bl true)) [some q1, some q2, some q3, some (houD false h L), some (.str (rowS R)), v5, some (.lst false ((sortS (ws.map rowS)).map D.str)), v7, none] := fun q1 q2 q3 v5 v7 => by
      generalize sortS (ws.map rowS) = SR at *
      generalize houD false h L = HH at *
      generalize hF : D.lst false (SR.map D.str) = LF at *
      refine lc_all (xs := SR) (g := D.str) (e := fun _ => .bl true) ?_ ?_ (by unfold sizeLine; omega) fun x _ => ?_
      · simp [fLf, itL]
      · simp
      · have i1 : gIsi [.str x, .gv (.ty "str")] = some (.bl true) := rfl
        exact ⟨[some q1, some q2, some q3, some HH, some (.str (rowS R)), v5, some LF, v7, some (.str x)], by simp, [some q1, some q2, some q3, some HH, some (.str (rowS R)), v5, some LF, v7, some (.str x)], by simp [i1], by simp⟩
    have ga := all_map_bl (o := true) (fun _ : Str => true) (sortS (ws.map rowS))
    have gt : (sortS (ws.map rowS)).all (fun _ => true) = true := List.all_eq_true.mpr fun _ _ => rfl
    rw [gt] at ga
    have ne1 := ne true true
    have ne2 := ne true false
    unfold sortedW at a ar
    refine ⟨some (.int (sumE (layE Bs L R R.length) : Int)), some (.lst true ((sortS (ws.map rowS)).map D.str ++ [.str ""])), some (.lst true ((sortS (ws.map rowS)).map D.str)), ?_⟩
    unfold law24t
    generalize (sumE (layE Bs L R R.length) : Int) = SE at *
    generalize (pastsE Bs L R R.length : Int) = PE at *
    generalize (sortS (ws.map rowS)).map (fun _ => D.bl true) = BL at *
    generalize (sortS (ws.map rowS)).map D.str = SR at *
    generalize houD false h L = HH at *
    simp [-all_l, fH, t1, ix, a, c', ar, isl, fz, lcI, ga, ne1, ne2, al]
theorem split24 : l_law_1 = (fSeq (fAsg (fCall 2 m__law_drawn (fCons (fOp2V gAdd (fCall 2 m__law_cell (fCons (fVar 0) (fCons (fVar 1) fNil))) (vVar 1)) (fCons (fK (.int 7)) fNil))) (gT 3 (gsC (gN 2) (gsC (gN 3) (gsC (gN 4) gsN)))))
    (fSeq (fAsg (fSl (fVar 4) fO0 (fO (fI (vOp2 gIx (vLst (vCons (vK (.int 32)) (vCons (vK (.int 16)) (vCons (vK (.int 16)) vNil)))) (vVar 1))))) (gN 4))
    (fSeq (fIf (fTb (fOp2V gEq (fCallIO 2 2 m__law_take (fCons (fK (.int 8)) fNil)) (vK (.int 3))))
    (fSeq (fAsg (fTup (fCons (fK (.int 4)) (fCons (fLst (fCons (fTup (fCons (fK (.str "a")) (fCons (fLst (fCons (fK (.int 0)) fNil)) fNil))) (fCons (fTup (fCons (fK (.str "b")) (fCons (fLst (fCons (fK (.int 1)) fNil)) fNil))) (fCons (fTup (fCons (fK (.str "c")) (fCons (fLst (fCons (fK (.int 2)) fNil)) fNil))) (fCons (fTup (fCons (fK (.str "d")) (fCons (fLst (fCons (fK (.int 3)) fNil)) fNil))) fNil))))) fNil))) (gN 3))
    (fAsg (fSl (fCallIO 2 3 m__law_row (fCons (fVar 3) (fCons (fK (.int 9)) fNil))) fO0 (fO (fK (.int 9)))) (gN 4)))
    fNext)
    law24t))) := rfl
theorem turn24 (ns : List Int) {k : Nat} (hk : k < 3) {v1 v2 v3 v4 v5 v6 v7 : Option D} : ∃ v1' v2' v3' v4' v5' v6' v7', stepS (gN 1) l_law_1 (.int (k : Int)) [some (.rol (ns.map D.int)), v1, v2, v3, v4, v5, v6, v7, none] = .nx [some (.rol (ns.map D.int)), v1', v2', v3', v4', v5', v6', v7', none] := by
  obtain ⟨g, h, L, R, hb, H, hR, hl, t⟩ := drawn_spec (cellM ns k + (k : Int)) (most := 7) (by omega)
  have t : m__law_drawn [.int (cellM ns k + (k : Int)), .int 7] = _ := t
  have ce : m__law_cell [.rol (ns.map D.int), .int (k : Int)] = _ := cell_spec ns k
  have l3 := lim_ix hk
  have ll := lim_le (k := k)
  have lf : gIx (.lst false [.int 32, .int 16, .int 16]) (.int (k : Int)) = some (.int ((limk k : Nat) : Int)) := l3
  have s3 : (3 : Nat) ≤ sizeLine := by decide
  have s1 : (1 : Nat) ≤ sizeLine := by decide
  have s2 : (2 : Nat) ≤ sizeLine := by decide
  have s4 : (4 : Nat) ≤ sizeLine := by decide
  obtain ⟨r1, g1, hr1, hb1, t1⟩ := take_spec (m := 8) hb (by omega) (by omega) (by omega)
  have sl := slice_to (Q := R) (p := limk k) (by omega)
  obtain ⟨g2, R2, hb2, hR2, hl2, t2⟩ := row_spec (most := 9) hb1 (by omega) H4 (by omega)
  have t2 : m__law_row [g1, houD false 4 L4, .int 9] = _ := t2
  have sl2 : gSl (.str (rowS R2)) none (some 9) = some (.str (rowS (R2.take 9))) := slice_to (Q := R2) (p := 9) (by omega)
  have fS : frz (D.rol (ns.map D.int)) = .rol (ns.map D.int) := by simp
  have fH4 : frz (houD true 4 L4) = houD false 4 L4 := by simp
  have fH5 : frz (houD false 4 L4) = houD false 4 L4 := by simp
  have ge : ∀ z : Int, gEq (.int z) (.int 3) = some (.bl (decide (z = 3))) := fun z => rfl
  have h4 := hou4
  obtain ⟨w5, w6, w7, tl⟩ := tail24 H (rowOk_take (n := limk k) hR) (by rw [List.length_take]; omega) (SC := .rol (ns.map D.int)) (K1 := .int (k : Int)) (BG := g1) (v5 := v5) (v6 := v6) (v7 := v7)
  obtain ⟨u5, u6, u7, tl2⟩ := tail24 H4 (rowOk_take (n := 9) hR2) (by rw [List.length_take]; omega) (SC := .rol (ns.map D.int)) (K1 := .int (k : Int)) (BG := g2) (v5 := v5) (v6 := v6) (v7 := v7)
  rw [ap_step, split24]
  by_cases c : (r1 : Int) = 3
  · refine ⟨some (.int (k : Int)), some g2, some (houD false 4 L4), some (.str (rowS (R2.take 9))), u5, u6, u7, ?_⟩
    generalize houD true 4 L4 = HT at *
    generalize houD false 4 L4 = HF at *
    generalize houD false h L = HH at *
    generalize D.rol (ns.map D.int) = SC at *
    simp [fS, fH4, fH5, ce, t, s1, s2, s4, s3, l3, lf, t1, sl, sl2, t2, c, h4, tl2]
  · refine ⟨some (.int (k : Int)), some g1, some (houD false h L), some (.str (rowS (R.take (limk k)))), w5, w6, w7, ?_⟩
    generalize houD false h L = HH at *
    generalize D.rol (ns.map D.int) = SC at *
    simp [fS, ce, t, s3, l3, lf, t1, sl, c, tl]
theorem m_law_true (ns : List Int) (_ : ns.length ≤ 63) : ∃ o, m_law [.rol (ns.map D.int)] = .rt (.bl true) o := by
  obtain ⟨n, h1, h3, ht⟩ := turns_spec ns
  obtain ⟨ρ', lp, v1, v2, v3, v4, v5, v6, v7, e⟩ := loopR (step := stepS (gN 1) l_law_1) (n := n) (ρ := [some (.rol (ns.map D.int)), none, none, none, none, none, none, none, none])
    (fun k ρ => ∃ v1 v2 v3 v4 v5 v6 v7, ρ = [some (.rol (ns.map D.int)), v1, v2, v3, v4, v5, v6, v7, none])
    ⟨_, _, _, _, _, _, _, rfl⟩ (by
      rintro j ρ hj ⟨v1, v2, v3, v4, v5, v6, v7, rfl⟩
      obtain ⟨_, _, _, _, _, _, _, e⟩ := turn24 ns (k := j) (by omega) (v1 := v1) (v2 := v2) (v3 := v3) (v4 := v4) (v5 := v5) (v6 := v6) (v7 := v7)
      exact ⟨_, e, _, _, _, _, _, _, _, rfl⟩)
  subst e
  unfold m_law; rw [semOf_ap]; unfold b_law
  have hv : ∀ l : Ev, (vOpN gMax2 (vCons (vK (.int 1)) (vCons (vOpN gMin2 (vCons (vK (.int 3)) (vCons (vOpN gLen (vCons (vVar 0) vNil)) vNil))) vNil))) (some (.rol (ns.map D.int)) :: l) = some (.int (n : Int)) := fun l => by
    rw [← ht]; simp
  simp [-ap_vN, hv, rng1_n (n := n) (by omega), lp]
end
end Law
open PySem PySem.W PyProof.Rows
set_option pp.maxSteps 20 in
set_option pp.deepTerms false in
set_option maxHeartbeats 0 in
theorem PySem.Challenge.cw_handsapart_k24_orders_listed_holds : PySem.Challenge.rw_handsapart_k24_orders_listed.Holds := by
  w_on; o_law; k_head; (case hw => w_witness2)
  k_fill
  refine Hap.walkDX (l := PySem.Challenge.rw_handsapart_k24_orders_listed) (k := 11) (x := "_law_script") (sem := Law.m_law) rfl rfl rfl (by decide) (fun w h Y => by first | exact PySem.W.kIn_of Y | exact PySem.W.km_in_of Y) ?F Law.m_law_true
  case F =>
    intro w mg fa h KX G hmg
    refine' Law.all_mk KX G hmg ?a0 ?l0 ?c0 ?k0 ?a1 ?l1 ?c1 ?k1 ?a2 ?l2 ?c2 ?k2 ?a3 ?l3 ?c3 ?k3 ?a4 ?l4 ?c4 ?k4 ?a5 ?l5 ?c5 ?k5 ?a6 ?l6 ?c6 ?k6 ?a7 ?l7 ?c7 ?k7 ?a8 ?l8 ?c8 ?k8 ?a9 ?l9 ?c9 ?k9 ?a10 ?l10 ?c10 ?k10 ?a11 ?l11 ?c11 ?k11 ?a12 ?l12 ?c12 ?k12 ?a13 ?l13 ?c13 ?k13 ?a14 ?l14 ?c14 ?k14 ?a15 ?l15 ?c15 ?k15 ?a16 ?l16 ?c16 ?k16 ?a17 ?l17 ?c17 ?k17 ?a18 ?l18 ?c18 ?k18 ?a19 ?l19 ?c19 ?k19 ?a20 ?l20 ?c20 ?k20 ?a21 ?l21 ?c21 ?k21 ?a22 ?l22 ?c22 ?k22 ?a23 ?l23 ?c23 ?k23 ?a24 ?l24 ?c24 ?k24 ?a25 ?l25 ?c25 ?k25 ?a26 ?l26 ?c26 ?k26 ?a27 ?l27 ?c27 ?k27 ?a28 ?l28 ?c28 ?k28 ?a29 ?l29 ?c29 ?k29 ?EgH ?EqH ?EmH ?EtH ?Eg0 ?Eq0 ?Em0 ?Et0 ?Ep0 ?Ega0 ?Egt0 ?Eca0 ?Eex0 ?Eg1 ?Eq1 ?Em1 ?Et1 ?Ep1 ?Ega1 ?Egt1 ?Eca1 ?Eex1 ?Eg2 ?Eq2 ?Em2 ?Et2 ?Ep2 ?Ega2 ?Egt2 ?Eca2 ?Eex2 ?Eg3 ?Eq3 ?Em3 ?Et3 ?Ep3 ?Ega3 ?Egt3 ?Eca3 ?Eex3 ?Eg4 ?Eq4 ?Em4 ?Et4 ?Ep4 ?Ega4 ?Egt4 ?Eca4 ?Eex4 ?Eg5 ?Eq5 ?Em5 ?Et5 ?Ep5 ?Ega5 ?Egt5 ?Eca5 ?Eex5 ?Eg6 ?Eq6 ?Em6 ?Et6 ?Ep6 ?Ega6 ?Egt6 ?Eca6 ?Eex6 ?Eg7 ?Eq7 ?Em7 ?Et7 ?Ep7 ?Ega7 ?Egt7 ?Eca7 ?Eex7 ?Eg8 ?Eq8 ?Em8 ?Et8 ?Ep8 ?Ega8 ?Egt8 ?Eca8 ?Eg9 ?Eq9 ?Em9 ?Et9 ?Ep9 ?Ega9 ?Egt9 ?Eca9 ?Eex9 ?Eg10 ?Eq10 ?Em10 ?Et10 ?Ep10 ?Ega10 ?Egt10 ?Eca10 ?Eex10 ?Eg11 ?Eq11 ?Em11 ?Et11 ?Ep11 ?Ega11 ?Egt11 ?Eca11 ?Eg12 ?Eq12 ?Em12 ?Et12 ?Ep12 ?Ega12 ?Egt12 ?Eca12 ?Eex12 ?Eg13 ?Eq13 ?Em13 ?Et13 ?Ep13 ?Ega13 ?Egt13 ?Eca13 ?Eex13 ?Eg14 ?Eq14 ?Em14 ?Et14 ?Ep14 ?Ega14 ?Egt14 ?Eca14 ?Eex14 ?Enn ?Etk ?End ?a30 ?l30 ?c30 ?k30 ?z_ValueError ?z_abs ?z_all ?z_any ?z_bool ?z_dict ?z_enumerate ?z_int ?z_isinstance ?z_len ?z_list ?z_max ?z_min ?z_range ?z_sorted ?z_str ?z_sum ?z_tuple ?e_LETTERS ?e_FEWEST_HANDS ?e_MOST_HANDS ?e_MOST_LETTERS ?e_MOST_ORDERS
    (case a0 => k_is)
    (case l0 => k_is)
    (case c0 => k_is)
    (case k0 => k_is)
    (case a1 => k_is)
    (case l1 => k_is)
    (case c1 => k_is)
    (case k1 => k_is)
    (case a2 => k_is)
    (case l2 => k_is)
    (case c2 => k_is)
    (case k2 => k_is)
    (case a3 => k_is)
    (case l3 => k_is)
    (case c3 => k_is)
    (case k3 => k_is)
    (case a4 => k_is)
    (case l4 => k_is)
    (case c4 => k_is)
    (case k4 => k_is)
    (case a5 => k_is)
    (case l5 => k_is)
    (case c5 => k_is)
    (case k5 => k_is)
    (case a6 => k_is)
    (case l6 => k_is)
    (case c6 => k_is)
    (case k6 => k_is)
    (case a7 => k_is)
    (case l7 => k_is)
    (case c7 => k_is)
    (case k7 => k_is)
    (case a8 => k_is)
    (case l8 => k_is)
    (case c8 => k_is)
    (case k8 => k_is)
    (case a9 => k_is)
    (case l9 => k_is)
    (case c9 => k_is)
    (case k9 => k_is)
    (case a10 => k_is)
    (case l10 => k_is)
    (case c10 => k_is)
    (case k10 => k_is)
    (case a11 => k_is)
    (case l11 => k_is)
    (case c11 => k_is)
    (case k11 => k_is)
    (case a12 => k_is)
    (case l12 => k_is)
    (case c12 => k_is)
    (case k12 => k_is)
    (case a13 => k_is)
    (case l13 => k_is)
    (case c13 => k_is)
    (case k13 => k_is)
    (case a14 => k_is)
    (case l14 => k_is)
    (case c14 => k_is)
    (case k14 => k_is)
    (case a15 => k_is)
    (case l15 => k_is)
    (case c15 => k_is)
    (case k15 => k_is)
    (case a16 => k_is)
    (case l16 => k_is)
    (case c16 => k_is)
    (case k16 => k_is)
    (case a17 => k_is)
    (case l17 => k_is)
    (case c17 => k_is)
    (case k17 => k_is)
    (case a18 => k_is)
    (case l18 => k_is)
    (case c18 => k_is)
    (case k18 => k_is)
    (case a19 => k_is)
    (case l19 => k_is)
    (case c19 => k_is)
    (case k19 => k_is)
    (case a20 => k_is)
    (case l20 => k_is)
    (case c20 => k_is)
    (case k20 => k_is)
    (case a21 => k_is)
    (case l21 => k_is)
    (case c21 => k_is)
    (case k21 => k_is)
    (case a22 => k_is)
    (case l22 => k_is)
    (case c22 => k_is)
    (case k22 => k_is)
    (case a23 => k_is)
    (case l23 => k_is)
    (case c23 => k_is)
    (case k23 => k_is)
    (case a24 => k_is)
    (case l24 => k_is)
    (case c24 => k_is)
    (case k24 => k_is)
    (case a25 => k_is)
    (case l25 => k_is)
    (case c25 => k_is)
    (case k25 => k_is)
    (case a26 => k_is)
    (case l26 => k_is)
    (case c26 => k_is)
    (case k26 => k_is)
    (case a27 => k_is)
    (case l27 => k_is)
    (case c27 => k_is)
    (case k27 => k_is)
    (case a28 => k_is)
    (case l28 => k_is)
    (case c28 => k_is)
    (case k28 => k_is)
    (case a29 => k_is)
    (case l29 => k_is)
    (case c29 => k_is)
    (case k29 => k_is)
    (case EgH => k_is)
    (case EqH => k_is)
    (case EmH => rfl)
    (case EtH => k_is)
    (case Eg0 => k_is)
    (case Eq0 => k_is)
    (case Em0 => rfl)
    (case Et0 => k_is)
    (case Ep0 => k_is)
    (case Ega0 => k_is)
    (case Egt0 => k_is)
    (case Eca0 => k_is)
    (case Eex0 => k_exc)
    (case Eg1 => k_is)
    (case Eq1 => k_is)
    (case Em1 => rfl)
    (case Et1 => k_is)
    (case Ep1 => k_is)
    (case Ega1 => k_is)
    (case Egt1 => k_is)
    (case Eca1 => k_is)
    (case Eex1 => k_exc)
    (case Eg2 => k_is)
    (case Eq2 => k_is)
    (case Em2 => rfl)
    (case Et2 => k_is)
    (case Ep2 => k_is)
    (case Ega2 => k_is)
    (case Egt2 => k_is)
    (case Eca2 => k_is)
    (case Eex2 => k_exc)
    (case Eg3 => k_is)
    (case Eq3 => k_is)
    (case Em3 => rfl)
    (case Et3 => k_is)
    (case Ep3 => k_is)
    (case Ega3 => k_is)
    (case Egt3 => k_is)
    (case Eca3 => k_is)
    (case Eex3 => k_exc)
    (case Eg4 => k_is)
    (case Eq4 => k_is)
    (case Em4 => rfl)
    (case Et4 => k_is)
    (case Ep4 => k_is)
    (case Ega4 => k_is)
    (case Egt4 => k_is)
    (case Eca4 => k_is)
    (case Eex4 => k_exc)
    (case Eg5 => k_is)
    (case Eq5 => k_is)
    (case Em5 => rfl)
    (case Et5 => k_is)
    (case Ep5 => k_is)
    (case Ega5 => k_is)
    (case Egt5 => k_is)
    (case Eca5 => k_is)
    (case Eex5 => k_exc)
    (case Eg6 => k_is)
    (case Eq6 => k_is)
    (case Em6 => rfl)
    (case Et6 => k_is)
    (case Ep6 => k_is)
    (case Ega6 => k_is)
    (case Egt6 => k_is)
    (case Eca6 => k_is)
    (case Eex6 => k_exc)
    (case Eg7 => k_is)
    (case Eq7 => k_is)
    (case Em7 => rfl)
    (case Et7 => k_is)
    (case Ep7 => k_is)
    (case Ega7 => k_is)
    (case Egt7 => k_is)
    (case Eca7 => k_is)
    (case Eex7 => k_exc)
    (case Eg8 => k_is)
    (case Eq8 => k_is)
    (case Em8 => rfl)
    (case Et8 => k_is)
    (case Ep8 => k_is)
    (case Ega8 => k_is)
    (case Egt8 => k_is)
    (case Eca8 => k_is)
    (case Eg9 => k_is)
    (case Eq9 => k_is)
    (case Em9 => rfl)
    (case Et9 => k_is)
    (case Ep9 => k_is)
    (case Ega9 => k_is)
    (case Egt9 => k_is)
    (case Eca9 => k_is)
    (case Eex9 => k_exc)
    (case Eg10 => k_is)
    (case Eq10 => k_is)
    (case Em10 => rfl)
    (case Et10 => k_is)
    (case Ep10 => k_is)
    (case Ega10 => k_is)
    (case Egt10 => k_is)
    (case Eca10 => k_is)
    (case Eex10 => k_exc)
    (case Eg11 => k_is)
    (case Eq11 => k_is)
    (case Em11 => rfl)
    (case Et11 => k_is)
    (case Ep11 => k_is)
    (case Ega11 => k_is)
    (case Egt11 => k_is)
    (case Eca11 => k_is)
    (case Eg12 => k_is)
    (case Eq12 => k_is)
    (case Em12 => rfl)
    (case Et12 => k_is)
    (case Ep12 => k_is)
    (case Ega12 => k_is)
    (case Egt12 => k_is)
    (case Eca12 => k_is)
    (case Eex12 => k_exc)
    (case Eg13 => k_is)
    (case Eq13 => k_is)
    (case Em13 => rfl)
    (case Et13 => k_is)
    (case Ep13 => k_is)
    (case Ega13 => k_is)
    (case Egt13 => k_is)
    (case Eca13 => k_is)
    (case Eex13 => k_exc)
    (case Eg14 => k_is)
    (case Eq14 => k_is)
    (case Em14 => rfl)
    (case Et14 => k_is)
    (case Ep14 => k_is)
    (case Ega14 => k_is)
    (case Egt14 => k_is)
    (case Eca14 => k_is)
    (case Eex14 => k_exc)
    (case Enn => k_is)
    (case Etk => k_is)
    (case End => decide)
    (case a30 => k_is)
    (case l30 => k_is)
    (case c30 => k_is)
    (case k30 => k_is)
    (case z_ValueError => k_is)
    (case z_abs => k_is)
    (case z_all => k_is)
    (case z_any => k_is)
    (case z_bool => k_is)
    (case z_dict => k_is)
    (case z_enumerate => k_is)
    (case z_int => k_is)
    (case z_isinstance => k_is)
    (case z_len => k_is)
    (case z_list => k_is)
    (case z_max => k_is)
    (case z_min => k_is)
    (case z_range => k_is)
    (case z_sorted => k_is)
    (case z_str => k_is)
    (case z_sum => k_is)
    (case z_tuple => k_is)
    (case e_LETTERS => k_is)
    (case e_FEWEST_HANDS => k_is)
    (case e_MOST_HANDS => k_is)
    (case e_MOST_LETTERS => k_is)
    (case e_MOST_ORDERS => k_is)
