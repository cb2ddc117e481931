import PyProof.Rows.All
import Wide.All
import OpenK.AllK
import Wide.FinOn
import HandS.ForMost
import HandS.ForExc
import HandS.Deep
import HandS.CallSlots
import HandS.ExcCtx
import HandS.Lambda
import HandS.Nested
import KE.KDictKeyed
import HandS.IsInst
import HandS.TupLe
import HandS.Style
import HandS.WideBits
import KE.GoesMore
import HandS.Strs
import HandS.SetFor
import HandS.Zip
import KE.DataMinMax
import KE.SortData
import HandS.Small
import HandS.Text
import PyProof.StrBlock2
import HandS.HotCalls
import KE.KExcIs
import HandS.EndTab
import KE.KDictZip
import HandS.TupSets
import KE.SortKeyHeap
import HandS.Conv
import HandS.NoneIn
import HandS.More
import HandS.TupAny
import HandS.ExcOwn
import HandS.TupLen
import PyProof.Rows.SortShellAny
import HandS.Replace
import HandS.ReplaceLit
import HandS.ReplaceList
import KE.KeyNested
import HandS.ExcInit
import HandS.ExcField
import PySem.Challenge.RW_handsapart_k44_tables_known
set_option autoImplicit false
set_option Elab.async false
set_option linter.all false
set_option maxRecDepth 100000
namespace Hap
open PySem PySem.Spec PyProof.Rows L2
abbrev AS := Addr → Prop
/-- the tables of code objects that stand in the heap, with the names of their codes -/
class TabC where
  T : List NdefX.NTab
  /-- where the functions stand that were handed in -/
  F : Nat → Addr
  G : Nat → NdefX.NF
  /-- what their captured names hold -/
  V : Nat → List V
  w : World
/-- not such a table -/
def NT (o : HO) : Prop := ∀ ps, o ≠ .tbl ps
theorem nt_lst {vs} : NT (.lst vs) := fun _ z => nomatch z
theorem nt_tup {vs} : NT (.tup vs) := fun _ z => nomatch z
theorem nt_dK {vs} : NT (.dK vs) := fun _ z => nomatch z
theorem nt_dT {vs} : NT (.dT vs) := fun _ z => nomatch z
theorem nt_ext {φ} : NT (.ext φ) := fun _ z => nomatch z
theorem nt_ins {C dx fs} : NT (.ins C dx fs) := fun _ z => nomatch z
theorem nt_xd {fs} : NT (.xd fs) := fun _ z => nomatch z
theorem nt_frz {o u} : NT (.frz o u) := fun _ z => nomatch z
/-- a thing that may be written -/
inductive Nd : HO → Prop
  | lst {vs} : Nd (.lst vs)
  | dK {k} : Nd (.dK k)
  | dT {k} : Nd (.dT k)
  | ins {C dx fs} : Nd (.ins C dx fs)
  | ext {φ : Heap → Prop} (h : ∀ c q, LamX.CodeO c q ≠ .ext φ) (h2 : ∀ f F, NdefX.FnO f F ≠ .ext φ) : Nd (.ext φ)
theorem tabs_write0 {T : List NdefX.NTab} {H : Hp} {a : Addr} {o u : HO} (t : NdefX.TabsN T H) (e : H a = some u) (n : Nd u) : NdefX.TabsN T (upd H a o) := fun p hp => by
  obtain ⟨ps, h1, h2, h3⟩ := t p hp
  have ne : ∀ {b : Addr} {w : HO}, H b = some w → w ≠ u → b ≠ a := fun {b w} hb hw z => by
    subst z
    rw [e] at hb
    exact hw (Option.some.inj hb).symm
  refine ⟨ps, by rw [upd_ne (ne h1 fun z => by cases n <;> cases z)]; exact h1, h2, fun pos cv hc => ?_⟩
  obtain ⟨c, e1, e2⟩ := h3 pos cv hc
  refine ⟨c, e1, ?_⟩
  rw [upd_ne (ne e2 fun z => by
    cases n with
    | ext h h2 => exact h _ _ z
    | _ => unfold LamX.CodeO at z; cases z)]
  exact e2
inductive D where
  | non
  | bl (b : Bool)
  | int (i : Int)
  | str (x : Str)
  | lst (o : Bool) (xs : List D)
  | tup (xs : List D)
  | dct (o : Bool) (ks : List Key) (xs : List D)
  | dcT (o : Bool) (ks : List (List Key)) (xs : List D)
  | dcN (o : Bool) (ks : List NestedKey) (xs : List D)
  | rol (xs : List D)
  | gv (v : V)
  /-- an exception at a, its dict at p -/
  | xn (a p : Addr) (fs : List (Str × V))
  | obj (o : Bool) (C : Addr) (ns : List Str) (xs : List D)
  /-- a function that was handed in -/
  | clo (j : Nat) (xs : List D)
  /-- anything -/
  | any
/-- the dict at a: its keys, the values that stand for them, its values -/
abbrev NDct (w : World) (a : Addr) (ks : List NestedKey) (kus vs : List V) : HO := .ext fun h => ks.length ≤ sizeLine ∧ (a == sysModules) = false ∧ ks.length = kus.length ∧ ks.length = vs.length ∧ ks.Nodup ∧
  ∃ (o : Obj) (es : Array DictEntry) (ep : Nat), h.get? a = some o ∧ o.ExactDict ∧ o.data = .dict es ep ∧ es.size = ks.length ∧
    ∀ (i : Nat) (e : DictEntry), es[i]? = some e → ∃ k ku v, ks[i]? = some k ∧ kus[i]? = some ku ∧ vs[i]? = some v ∧ e.hash = k.hash w ∧ RelV ku e.key ∧ RelV v e.val
mutual
/-- a value that stands for a key -/
inductive KIs (P : AS) (H : Hp) : NestedKey → V → Prop
  | none : KIs P H .none .non
  | num (i) : KIs P H (.num i) (.int i)
  | text (x) : KIs P H (.text x) (.str x)
  | tup {p vs ks} : H p = some (.tup vs) → P p → KAll P H ks vs → KIs P H (.tup ks) (.ref p)
inductive KAll (P : AS) (H : Hp) : List NestedKey → List V → Prop
  | nil : KAll P H [] []
  | cons {k v ks vs} : KIs P H k v → KAll P H ks vs → KAll P H (k :: ks) (v :: vs)
end
mutual
theorem KIs.step {P P' : AS} {H H' : Hp} {k : NestedKey} {v : V} (x : KIs P H k v) (h : ∀ b vs, P b → H b = some (.tup vs) → P' b ∧ H' b = some (.tup vs)) : KIs P' H' k v := by
  cases x with
  | none => exact .none
  | num i => exact .num i
  | text t => exact .text t
  | tup e p r => exact .tup (h _ _ p e).2 (h _ _ p e).1 (r.step h)
theorem KAll.step {P P' : AS} {H H' : Hp} {ks : List NestedKey} {vs : List V} (x : KAll P H ks vs) (h : ∀ b vs, P b → H b = some (.tup vs) → P' b ∧ H' b = some (.tup vs)) : KAll P' H' ks vs := by
  cases x with
  | nil => exact .nil
  | cons r t => exact .cons (r.step h) (t.step h)
end
theorem KIs.mono {P P' : AS} {H H' : Hp} {k : NestedKey} {v : V} (x : KIs P H k v) (hP : ∀ b, P b → P' b) (hH : ∀ b vs, P b → H b = some (.tup vs) → H' b = some (.tup vs)) : KIs P' H' k v := x.step fun b vs p e => ⟨hP b p, hH b vs p e⟩
theorem KAll.mono {P P' : AS} {H H' : Hp} {ks : List NestedKey} {vs : List V} (x : KAll P H ks vs) (hP : ∀ b, P b → P' b) (hH : ∀ b vs, P b → H b = some (.tup vs) → H' b = some (.tup vs)) : KAll P' H' ks vs := x.step fun b vs p e => ⟨hP b p, hH b vs p e⟩
/-- no key is deeper than the model's looks go -/
def kDeep (ks : List NestedKey) : Prop := ∀ k ∈ ks, k.depth ≤ 8
theorem tabs_new0 {T : List NdefX.NTab} {H : Hp} {a : Addr} {o : HO} (e : H a = none) (t : NdefX.TabsN T H) : NdefX.TabsN T (upd H a o) := t.ext fun b u q => by rw [upd_ne (ne_of_none q e)]; exact q
theorem rd_mono {H H' : Hp} {a : Addr} {u : HO} (r : Rd H a u) (h1 : H a = some u → H' a = some u) (h2 : ∀ o, H a = some (.frz o u) → H' a = some (.frz o u)) : Rd H' a u := r.elim (fun e => .inl (h1 e)) fun ⟨o, e⟩ => .inr ⟨o, h2 o e⟩
theorem DGet.kR {H : Hp} {a : Addr} {kvs : List (Key × V)} {k : Key} (e : Rd H a (.dK kvs)) : DGet H a (kV k) (valV kvs k) := .inl ⟨kvs, k, e, rfl, rfl⟩
theorem DGet.tR {H : Hp} {a b : Addr} {kvs : List (List Key × V)} {k : List Key} (e : Rd H a (.dT kvs)) (eb : H b = some (.tup (k.map kV))) : DGet H a (.ref b) (valV kvs k) := .inr ⟨kvs, k, b, e, rfl, eb, rfl⟩
mutual
/-- no node of one's own -/
def isImm : D → Bool
  | .lst o xs => !o && isImms xs
  | .tup xs => isImms xs
  | .dct o _ xs => !o && isImms xs
  | .dcT o _ xs => !o && isImms xs
  | .dcN o _ xs => !o && isImms xs
  | .clo _ _ => false
  | .rol xs => isImms xs
  | .obj o _ _ xs => !o && isImms xs
  | _ => true
def isImms : List D → Bool
  | [] => true
  | d :: ds => isImm d && isImms ds
end
mutual
/-- all nodes given up -/
def frz : D → D
  | .lst _ xs => .lst false (frzs xs)
  | .tup xs => .tup (frzs xs)
  | .dct _ ks xs => .dct false ks (frzs xs)
  | .dcT _ ks xs => .dcT false ks (frzs xs)
  | .dcN _ ks xs => .dcN false ks (frzs xs)
  | .rol xs => .rol (frzs xs)
  | .non => .non
  | .bl b => .bl b
  | .int i => .int i
  | .str x => .str x
  | .gv v => .gv v
  | .xn a p fs => .xn a p fs
  | .obj _ C ns xs => .obj false C ns (frzs xs)
  | .clo _ _ => .any
  | .any => .any
def frzs : List D → List D
  | [] => []
  | d :: ds => frz d :: frzs ds
end
/-- an address that is read, not by the heap of the program's own making: frozen, or of the module -/
def Rol (K : PySem.W.Frag) (H : Hp) (P : AS) (p : Addr) (vs : List V) : Prop :=
  (P p ∧ (H p = some (.lst vs) ∨ ∃ o, H p = some (.frz o (.lst vs)))) ∨
    ∃ (o : Obj) (its : Array Value) (n : Nat), K.lookup p = some o ∧ o.cls = .type "list" ∧ o.dict = none ∧ o.data = .seq its n ∧ its.size ≤ sizeLine ∧ Vals vs its.toList
mutual
/-- a value that stands for a datum; z: with the ownership (F: at most these addresses are one's own) -/
inductive Rl [TabC] (z : Bool) (K : PySem.W.Frag) (P : AS) (H : Hp) : D → V → AS → Prop
  | non {F} : Rl z K P H .non .non F
  | bl {b F} : Rl z K P H (.bl b) (.bl b) F
  | int {i F} : Rl z K P H (.int i) (.int i) F
  | str {x F} : Rl z K P H (.str x) (.str x) F
  | lstO {p vs ds F F'} : H p = some (.lst vs) → (z = true → F p) → (∀ b, F' b → F b ∧ b ≠ p) → Rls z K P H ds vs F' → Rl z K P H (.lst true ds) (.ref p) F
  | lstI {p vs ds F} : H p = some (.lst vs) → P p → isImms ds = true → Rls z K P H ds vs (fun _ => False) → Rl z K P H (.lst false ds) (.ref p) F
  | tup {p vs ds F} : H p = some (.tup vs) → P p → Rls z K P H ds vs F → Rl z K P H (.tup ds) (.ref p) F
  | dctO {p kvs ks vs ds F F'} : H p = some (.dK kvs) → kvs = List.zip ks vs → ks.length = vs.length → (z = true → F p) → (∀ b, F' b → F b ∧ b ≠ p) → Rls z K P H ds vs F' → Rl z K P H (.dct true ks ds) (.ref p) F
  | dctI {p kvs ks vs ds F} : Rd H p (.dK kvs) → kvs = List.zip ks vs → ks.length = vs.length → P p → isImms ds = true → Rls z K P H ds vs (fun _ => False) → Rl z K P H (.dct false ks ds) (.ref p) F
  | dcTO {p kvs ks vs ds F F'} : H p = some (.dT kvs) → kvs = List.zip ks vs → ks.length = vs.length → (z = true → F p) → (∀ b, F' b → F b ∧ b ≠ p) → Rls z K P H ds vs F' → Rl z K P H (.dcT true ks ds) (.ref p) F
  | dcTI {p kvs ks vs ds F} : Rd H p (.dT kvs) → kvs = List.zip ks vs → ks.length = vs.length → P p → isImms ds = true → Rls z K P H ds vs (fun _ => False) → Rl z K P H (.dcT false ks ds) (.ref p) F
  | dcNO {p ks kus vs ds F F'} : H p = some (NDct TabC.w p ks kus vs) → KAll P H ks kus → kDeep ks → (z = true → F p) → (∀ b, F' b → F b ∧ b ≠ p) → Rls z K P H ds vs F' → Rl z K P H (.dcN true ks ds) (.ref p) F
  | dcNI {p ks kus vs ds F} : H p = some (NDct TabC.w p ks kus vs) → KAll P H ks kus → kDeep ks → P p → isImms ds = true → Rls z K P H ds vs (fun _ => False) → Rl z K P H (.dcN false ks ds) (.ref p) F
  | clo {j xs F} : H (TabC.F j) = some (NdefX.FnO (TabC.F j) (TabC.G j)) → P (TabC.F j) → H (TabC.G j).c = some (LamX.CodeO (TabC.G j).c (TabC.G j).qual) → P (TabC.G j).c → isImms xs = true → Rls z K P H xs (TabC.V j) (fun _ => False) → Rl z K P H (.clo j xs) (.ref (TabC.F j)) F
  | any {v F} : Rl z K P H .any v F
  | rol {p vs ds F} : Rol K H P p vs → isImms ds = true → Rls z K P H ds vs (fun _ => False) → Rl z K P H (.rol ds) (.ref p) F
  | gv {v F} : Rl z K P H (.gv v) v F
  | xn {a p fs F} : H p = some (.xd fs) → P p → Rl z K P H (.xn a p fs) (.ref a) F
  | objO {p C dx fs ns vs ds F F'} : H p = some (.ins C dx fs) → fs = List.zip ns vs → ns.length = vs.length → (z = true → F p) → (∀ b, F' b → F b ∧ b ≠ p) → Rls z K P H ds vs F' → Rl z K P H (.obj true C ns ds) (.ref p) F
  | objI {p C dx fs ns vs ds F} : H p = some (.ins C dx fs) → fs = List.zip ns vs → ns.length = vs.length → P p → isImms ds = true → Rls z K P H ds vs (fun _ => False) → Rl z K P H (.obj false C ns ds) (.ref p) F
inductive Rls [TabC] (z : Bool) (K : PySem.W.Frag) (P : AS) (H : Hp) : List D → List V → AS → Prop
  | nil {F} : Rls z K P H [] [] F
  | cons {d v ds vs F F1 F2} : Rl z K P H d v F1 → Rls z K P H ds vs F2 → (∀ b, F1 b → F b) → (∀ b, F2 b → F b) → (∀ b, F1 b → F2 b → False) → Rls z K P H (d :: ds) (v :: vs) F
end
section
variable [TabC]
variable {z z' : Bool} {K : PySem.W.Frag} {P P' : AS} {H H' : Hp} {F F' : AS} {d : D} {v : V} {ds : List D} {vs : List V}
theorem Rol.mono {p : Addr} (h : Rol K H P p vs) (hP : ∀ b, P b → P' b) (hH : ∀ b o, H b = some o → (z = true → P b ∨ F b) → NT o → H' b = some o) : Rol K H' P' p vs := by
  rcases h with ⟨hp, e | ⟨o, e⟩⟩ | h
  · exact .inl ⟨hP _ hp, .inl (hH _ _ e (fun _ => .inl hp) nt_lst)⟩
  · exact .inl ⟨hP _ hp, .inr ⟨o, hH _ _ e (fun _ => .inl hp) nt_frz⟩⟩
  · exact .inr h
mutual
theorem rl_mono {z : Bool} {K : PySem.W.Frag} {P P' : AS} {H H' : Hp} {F F' : AS} {d : D} {v : V} (h : Rl z K P H d v F) (hP : ∀ b, P b → P' b) (hH : ∀ b o, H b = some o → (z = true → P b ∨ F b) → NT o → H' b = some o) (hF : ∀ b, F b → F' b) : Rl z K P' H' d v F' := by
  cases h with
  | non => exact .non
  | bl => exact .bl
  | int => exact .int
  | str => exact .str
  | lstO e f s r => exact .lstO (hH _ _ e (fun q => .inr (f q)) nt_lst) (fun q => hF _ (f q)) (fun b q => ⟨hF _ (s b q).1, (s b q).2⟩) (rls_mono r hP (fun b o e q => hH b o e fun w => (q w).imp id fun t => (s b t).1) fun _ q => q)
  | lstI e p i r => exact .lstI (hH _ _ e (fun _ => .inl p) nt_lst) (hP _ p) i (rls_mono r hP (fun b o e q => hH b o e fun w => (q w).imp id fun t => t.elim) fun _ q => q)
  | tup e p r => exact .tup (hH _ _ e (fun _ => .inl p) nt_tup) (hP _ p) (rls_mono r hP hH hF)
  | dctO e k l f s r => exact .dctO (hH _ _ e (fun q => .inr (f q)) nt_dK) k l (fun q => hF _ (f q)) (fun b q => ⟨hF _ (s b q).1, (s b q).2⟩) (rls_mono r hP (fun b o e q => hH b o e fun w => (q w).imp id fun t => (s b t).1) fun _ q => q)
  | dctI e k l p i r => exact .dctI (rd_mono e (fun e => hH _ _ e (fun _ => .inl p) nt_dK) fun o e => hH _ _ e (fun _ => .inl p) nt_frz) k l (hP _ p) i (rls_mono r hP (fun b o e q => hH b o e fun w => (q w).imp id fun t => t.elim) fun _ q => q)
  | dcTO e k l f s r => exact .dcTO (hH _ _ e (fun q => .inr (f q)) nt_dT) k l (fun q => hF _ (f q)) (fun b q => ⟨hF _ (s b q).1, (s b q).2⟩) (rls_mono r hP (fun b o e q => hH b o e fun w => (q w).imp id fun t => (s b t).1) fun _ q => q)
  | dcTI e k l p i r => exact .dcTI (rd_mono e (fun e => hH _ _ e (fun _ => .inl p) nt_dT) fun o e => hH _ _ e (fun _ => .inl p) nt_frz) k l (hP _ p) i (rls_mono r hP (fun b o e q => hH b o e fun w => (q w).imp id fun t => t.elim) fun _ q => q)
  | dcNO e k d f s r => exact .dcNO (hH _ _ e (fun q => .inr (f q)) nt_ext) (k.mono hP fun b vs p e => hH _ _ e (fun _ => .inl p) nt_tup) d (fun q => hF _ (f q)) (fun b q => ⟨hF _ (s b q).1, (s b q).2⟩) (rls_mono r hP (fun b o e q => hH b o e fun w => (q w).imp id fun t => (s b t).1) fun _ q => q)
  | dcNI e k d p i r => exact .dcNI (hH _ _ e (fun _ => .inl p) nt_ext) (k.mono hP fun b vs p e => hH _ _ e (fun _ => .inl p) nt_tup) d (hP _ p) i (rls_mono r hP (fun b o e q => hH b o e fun w => (q w).imp id fun t => t.elim) fun _ q => q)
  | clo e p e' p' i r => exact .clo (hH _ _ e (fun _ => .inl p) nt_ext) (hP _ p) (hH _ _ e' (fun _ => .inl p') nt_ext) (hP _ p') i (rls_mono r hP (fun b o e q => hH b o e fun w => (q w).imp id fun t => t.elim) fun _ q => q)
  | any => exact .any
  | rol e i r => exact .rol (Rol.mono e hP hH) i (rls_mono r hP (fun b o e q => hH b o e fun w => (q w).imp id fun t => t.elim) fun _ q => q)
  | gv => exact .gv
  | xn e p => exact .xn (hH _ _ e (fun _ => .inl p) nt_xd) (hP _ p)
  | objO e k l f s r => exact .objO (hH _ _ e (fun q => .inr (f q)) nt_ins) k l (fun q => hF _ (f q)) (fun b q => ⟨hF _ (s b q).1, (s b q).2⟩) (rls_mono r hP (fun b o e q => hH b o e fun w => (q w).imp id fun t => (s b t).1) fun _ q => q)
  | objI e k l p i r => exact .objI (hH _ _ e (fun _ => .inl p) nt_ins) k l (hP _ p) i (rls_mono r hP (fun b o e q => hH b o e fun w => (q w).imp id fun t => t.elim) fun _ q => q)
theorem rls_mono {z : Bool} {K : PySem.W.Frag} {P P' : AS} {H H' : Hp} {F F' : AS} {ds : List D} {vs : List V} (h : Rls z K P H ds vs F) (hP : ∀ b, P b → P' b) (hH : ∀ b o, H b = some o → (z = true → P b ∨ F b) → NT o → H' b = some o) (hF : ∀ b, F b → F' b) : Rls z K P' H' ds vs F' := by
  cases h with
  | nil => exact .nil
  | cons r rs s1 s2 dj => exact .cons (rl_mono r hP (fun b o e q => hH b o e fun w => (q w).imp id (s1 b)) fun _ q => q) (rls_mono rs hP (fun b o e q => hH b o e fun w => (q w).imp id (s2 b)) fun _ q => q) (fun b q => hF _ (s1 b q)) (fun b q => hF _ (s2 b q)) dj
end
mutual
theorem rl_view {z : Bool} {K : PySem.W.Frag} {P : AS} {H : Hp} {F F' : AS} {d : D} {v : V} (h : Rl z K P H d v F) : Rl false K P H d v F' := by
  cases h with
  | non => exact .non
  | bl => exact .bl
  | int => exact .int
  | str => exact .str
  | lstO e f s r => exact .lstO (F' := fun _ => False) e (fun q => by cases q) (fun b q => q.elim) (rls_view r)
  | lstI e p i r => exact .lstI e p i (rls_view r)
  | tup e p r => exact .tup e p (rls_view r)
  | dctO e k l f s r => exact .dctO (F' := fun _ => False) e k l (fun q => by cases q) (fun b q => q.elim) (rls_view r)
  | dctI e k l p i r => exact .dctI e k l p i (rls_view r)
  | dcTO e k l f s r => exact .dcTO (F' := fun _ => False) e k l (fun q => by cases q) (fun b q => q.elim) (rls_view r)
  | dcTI e k l p i r => exact .dcTI e k l p i (rls_view r)
  | dcNO e k d f s r => exact .dcNO (F' := fun _ => False) e k d (fun q => by cases q) (fun b q => q.elim) (rls_view r)
  | dcNI e k d p i r => exact .dcNI e k d p i (rls_view r)
  | clo e p e' p' i r => exact .clo e p e' p' i (rls_view r)
  | any => exact .any
  | rol e i r => exact .rol e i (rls_view r)
  | gv => exact .gv
  | xn e p => exact .xn e p
  | objO e k l f s r => exact .objO (F' := fun _ => False) e k l (fun q => by cases q) (fun b q => q.elim) (rls_view r)
  | objI e k l p i r => exact .objI e k l p i (rls_view r)
theorem rls_view {z : Bool} {K : PySem.W.Frag} {P : AS} {H : Hp} {F F' : AS} {ds : List D} {vs : List V} (h : Rls z K P H ds vs F) : Rls false K P H ds vs F' := by
  cases h with
  | nil => exact .nil
  | cons r rs s1 s2 dj => exact .cons (F1 := fun _ => False) (F2 := fun _ => False) (rl_view r) (rls_view rs) (fun b q => q.elim) (fun b q => q.elim) fun _ q => q.elim
end
mutual
theorem rl_imm {z z' : Bool} {K : PySem.W.Frag} {P : AS} {H : Hp} {F F' : AS} {d : D} {v : V} (h : Rl z K P H d v F) (i : isImm d = true) : Rl z' K P H d v F' := by
  cases h with
  | non => exact .non
  | bl => exact .bl
  | int => exact .int
  | str => exact .str
  | lstO e f s r => simp [isImm] at i
  | lstI e p i r => exact .lstI e p i (rls_imm r i)
  | tup e p r => exact .tup e p (rls_imm r (by simpa [isImm] using i))
  | dctO e k l f s r => simp [isImm] at i
  | dctI e k l p i r => exact .dctI e k l p i (rls_imm r i)
  | dcTO e k l f s r => simp [isImm] at i
  | dcTI e k l p i r => exact .dcTI e k l p i (rls_imm r i)
  | dcNO e k d f s r => simp [isImm] at i
  | dcNI e k d p i r => exact .dcNI e k d p i (rls_imm r i)
  | clo => simp [isImm] at i
  | any => exact .any
  | rol e i r => exact .rol e i (rls_imm r i)
  | gv => exact .gv
  | xn e p => exact .xn e p
  | objO e k l f s r => simp [isImm] at i
  | objI e k l p i r => exact .objI e k l p i (rls_imm r i)
theorem rls_imm {z z' : Bool} {K : PySem.W.Frag} {P : AS} {H : Hp} {F F' : AS} {ds : List D} {vs : List V} (h : Rls z K P H ds vs F) (i : isImms ds = true) : Rls z' K P H ds vs F' := by
  cases h with
  | nil => exact .nil
  | cons r rs s1 s2 dj =>
    simp only [isImms, Bool.and_eq_true] at i
    exact .cons (F1 := fun _ => False) (F2 := fun _ => False) (rl_imm r i.1) (rls_imm rs i.2) (fun b q => q.elim) (fun b q => q.elim) fun _ q => q.elim
end
mutual
theorem isImm_frz : ∀ d : D, isImm (frz d) = true
  | .non => rfl
  | .bl _ => rfl
  | .int _ => rfl
  | .str _ => rfl
  | .lst _ xs => by simp only [frz, isImm, isImms_frzs xs]; rfl
  | .tup xs => by simp only [frz, isImm, isImms_frzs xs]
  | .dct _ _ xs => by simp only [frz, isImm, isImms_frzs xs]; rfl
  | .dcT _ _ xs => by simp only [frz, isImm, isImms_frzs xs]; rfl
  | .dcN _ _ xs => by simp only [frz, isImm, isImms_frzs xs]; rfl
  | .rol xs => by simp only [frz, isImm, isImms_frzs xs]
  | .gv _ => rfl
  | .xn _ _ _ => rfl
  | .obj _ _ _ xs => by simp only [frz, isImm, isImms_frzs xs]; rfl
  | .clo _ _ => rfl
  | .any => rfl
theorem isImms_frzs : ∀ ds : List D, isImms (frzs ds) = true
  | [] => rfl
  | d :: ds => by simp only [frzs, isImms, isImm_frz d, isImms_frzs ds]; rfl
end
mutual
theorem frz_imm : ∀ d : D, isImm d = true → frz d = d
  | .non, _ => rfl
  | .bl _, _ => rfl
  | .int _, _ => rfl
  | .str _, _ => rfl
  | .lst o xs, h => by
    simp only [isImm, Bool.and_eq_true, Bool.not_eq_true'] at h
    simp only [frz, frzs_imm xs h.2, h.1]
  | .tup xs, h => by
    simp only [isImm] at h
    simp only [frz, frzs_imm xs h]
  | .dct o _ xs, h => by
    simp only [isImm, Bool.and_eq_true, Bool.not_eq_true'] at h
    simp only [frz, frzs_imm xs h.2, h.1]
  | .dcT o _ xs, h => by
    simp only [isImm, Bool.and_eq_true, Bool.not_eq_true'] at h
    simp only [frz, frzs_imm xs h.2, h.1]
  | .dcN o _ xs, h => by
    simp only [isImm, Bool.and_eq_true, Bool.not_eq_true'] at h
    simp only [frz, frzs_imm xs h.2, h.1]
  | .clo _ _, h => by simp [isImm] at h
  | .any, _ => rfl
  | .rol xs, h => by
    simp only [isImm] at h
    simp only [frz, frzs_imm xs h]
  | .gv _, _ => rfl
  | .xn _ _ _, _ => rfl
  | .obj o _ _ xs, h => by
    simp only [isImm, Bool.and_eq_true, Bool.not_eq_true'] at h
    simp only [frz, frzs_imm xs h.2, h.1]
theorem frzs_imm : ∀ ds : List D, isImms ds = true → frzs ds = ds
  | [], _ => rfl
  | d :: ds, h => by
    simp only [isImms, Bool.and_eq_true] at h
    simp only [frzs, frz_imm d h.1, frzs_imm ds h.2]
end
mutual
theorem rl_frz {z : Bool} {K : PySem.W.Frag} {P P' : AS} {H : Hp} {F F' : AS} {d : D} {v : V} (h : Rl true K P H d v F) (hP : ∀ b, P b → P' b) (hF : ∀ b, F b → P' b) : Rl z K P' H (frz d) v F' := by
  cases h with
  | non => exact .non
  | bl => exact .bl
  | int => exact .int
  | str => exact .str
  | lstO e f s r => exact .lstI e (hF _ (f rfl)) (isImms_frzs _) (rls_frz r hP fun b q => hF _ (s b q).1)
  | lstI e p i r => exact .lstI e (hP _ p) (isImms_frzs _) (rls_frz r hP fun b q => q.elim)
  | tup e p r => exact .tup e (hP _ p) (rls_frz r hP hF)
  | dctO e k l f s r => exact .dctI (.inl e) k l (hF _ (f rfl)) (isImms_frzs _) (rls_frz r hP fun b q => hF _ (s b q).1)
  | dctI e k l p i r => exact .dctI e k l (hP _ p) (isImms_frzs _) (rls_frz r hP fun b q => q.elim)
  | dcTO e k l f s r => exact .dcTI (.inl e) k l (hF _ (f rfl)) (isImms_frzs _) (rls_frz r hP fun b q => hF _ (s b q).1)
  | dcTI e k l p i r => exact .dcTI e k l (hP _ p) (isImms_frzs _) (rls_frz r hP fun b q => q.elim)
  | dcNO e k d f s r => exact .dcNI e (k.mono hP fun _ _ _ e => e) d (hF _ (f rfl)) (isImms_frzs _) (rls_frz r hP fun b q => hF _ (s b q).1)
  | dcNI e k d p i r => exact .dcNI e (k.mono hP fun _ _ _ e => e) d (hP _ p) (isImms_frzs _) (rls_frz r hP fun b q => q.elim)
  | clo => exact .any
  | any => exact .any
  | rol e i r => exact .rol (Rol.mono (z := true) (F := fun _ => False) e hP fun b o e _ _ => e) (isImms_frzs _) (rls_frz r hP fun b q => q.elim)
  | gv => exact .gv
  | xn e p => exact .xn e (hP _ p)
  | objO e k l f s r => exact .objI e k l (hF _ (f rfl)) (isImms_frzs _) (rls_frz r hP fun b q => hF _ (s b q).1)
  | objI e k l p i r => exact .objI e k l (hP _ p) (isImms_frzs _) (rls_frz r hP fun b q => q.elim)
theorem rls_frz {z : Bool} {K : PySem.W.Frag} {P P' : AS} {H : Hp} {F F' : AS} {ds : List D} {vs : List V} (h : Rls true K P H ds vs F) (hP : ∀ b, P b → P' b) (hF : ∀ b, F b → P' b) : Rls z K P' H (frzs ds) vs F' := by
  cases h with
  | nil => exact .nil
  | cons r rs s1 s2 dj => exact .cons (F1 := fun _ => False) (F2 := fun _ => False) (rl_frz r hP fun b q => hF _ (s1 b q)) (rls_frz rs hP fun b q => hF _ (s2 b q)) (fun b q => q.elim) (fun b q => q.elim) fun _ q => q.elim
end
theorem rls_len {z : Bool} {K : PySem.W.Frag} {P : AS} {H : Hp} : ∀ {ds : List D} {vs : List V} {F : AS}, Rls z K P H ds vs F → ds.length = vs.length
  | _, _, _, .nil => rfl
  | _, _, _, .cons _ t _ _ _ => congrArg (· + 1) (rls_len t)
theorem rls_get {z : Bool} {K : PySem.W.Frag} {P : AS} {H : Hp} : ∀ {ds : List D} {vs : List V} {F : AS} {i : Nat} {d : D}, Rls z K P H ds vs F → ds[i]? = some d → ∃ v, vs[i]? = some v ∧ Rl z K P H d v F
  | _, _, _, _, _, .nil, e => by simp at e
  | _, _, _, 0, _, .cons r _ s1 _ _, e => by
    simp at e; subst e
    exact ⟨_, rfl, rl_mono r (fun _ q => q) (fun _ _ e _ _ => e) s1⟩
  | _, _, _, i + 1, _, .cons _ t _ s2 _, e => by
    obtain ⟨v, e1, r⟩ := rls_get (i := i) t (by simpa using e)
    exact ⟨v, by simpa using e1, rl_mono r (fun _ q => q) (fun _ _ e _ _ => e) s2⟩
end
end Hap
namespace Hap
open PySem PySem.Spec PyProof.Rows L2
abbrev Ev := List (Option D)
/-- an exception as a datum: its class's name, its fields -/
structure DX where
  cls : Str
  args : List D
inductive R (α : Type) where
  | ok (a : α) (ρ : Ev)
  | exc (x : DX) (ρ : Ev)
  | stk
inductive RS where
  | nx (ρ : Ev)
  | rt (d : D) (ρ : Ev)
  | bk (ρ : Ev)
  | ct (ρ : Ev)
  | exc (x : DX) (ρ : Ev)
  | stk
abbrev FP := Nat → AS
def U (FE : FP) : AS := fun b => ∃ i, FE i b
/-- a tuple, or a table of code objects -/
def IsTT (o : Option HO) : Prop := (∃ vs, o = some (.tup vs)) ∨ (∃ ps, o = some (.tbl ps)) ∨ (∃ c q, o = some (LamX.CodeO c q)) ∨ ∃ f F, o = some (NdefX.FnO f F)
theorem IsTT.nd {o : HO} (h : IsTT (some o)) (n : Nd o) : False := by
  rcases h with ⟨vs, e⟩ | ⟨ps, e⟩ | ⟨c, q, e⟩ | ⟨f, F, e⟩
  · cases e; cases n
  · cases e; cases n
  · have e := Option.some.inj e
    cases n with
    | ext h h2 => exact h _ _ e.symm
    | _ => unfold LamX.CodeO at e; cases e
  · have e := Option.some.inj e
    cases n with
    | ext h h2 => exact h2 _ _ e.symm
    | _ => unfold NdefX.FnO at e; cases e
theorem IsTT.none (h : IsTT none) : False := by
  rcases h with ⟨vs, e⟩ | ⟨ps, e⟩ | ⟨c, q, e⟩ | ⟨f, F, e⟩ <;> cases e
/-- the known tables; each tuple and each table is given up -/
def TAB [TabC] (P : AS) (H : Hp) : Prop := NdefX.TabsN TabC.T H ∧ ∀ b, IsTT (H b) → P b
theorem TAB.mono [TabC] {P P' : AS} {H : Hp} (t : TAB P H) (h : ∀ b, P b → P' b) : TAB P' H := ⟨t.1, fun b e => h b (t.2 b e)⟩
theorem TAB.all [TabC] {H : Hp} (t : NdefX.TabsN TabC.T H) : TAB (fun b => H b ≠ none) H := ⟨t, fun b e => fun z => by rw [z] at e; exact e.none⟩
theorem TAB.upd [TabC] {P P' : AS} {H : Hp} {a : Addr} {o : HO} (t : TAB P H) (t0 : NdefX.TabsN TabC.T (upd H a o)) (h : ∀ b, P b → P' b) (no : IsTT (some o) → P' a) : TAB P' (upd H a o) := ⟨t0, fun b e => by
  by_cases c : b = a
  · subst c; rw [upd_same] at e; exact no e
  · rw [upd_ne c] at e; exact h b (t.2 b e)⟩
theorem tabs_write [TabC] {P : AS} {H : Hp} {a : Addr} {o u : HO} (t : TAB P H) (e : H a = some u) (n : Nd u) (no : Nd o := by constructor) : TAB P (upd H a o) := t.upd (tabs_write0 t.1 e n) (fun _ z => z) fun z => (z.nd no).elim
theorem tabs_new [TabC] {P : AS} {H : Hp} {a : Addr} {o : HO} (e : H a = none) (t : TAB P H) (no : ¬ IsTT (some o) := by exact fun z => z.nd (by constructor)) : TAB P (upd H a o) := t.upd (tabs_new0 e t.1) (fun _ z => z) fun z => (no z).elim
/-- what a step that leaves what was there gives up at least -/
def pinN (P : AS) (H H2 : Hp) : AS := fun b => P b ∨ (H b = none ∧ IsTT (H2 b))
theorem TAB.step [TabC] {P P2 : AS} {H H2 : Hp} (t : TAB P H) (t2 : NdefX.TabsN TabC.T H2) (fr : ∀ b o, H b = some o → NT o → H2 b = some o) (h : ∀ b, P b → P2 b) (h1 : ∀ b, H b = none → IsTT (H2 b) → P2 b) : TAB P2 H2 := by
  refine ⟨t2, fun b e => ?_⟩
  cases c : H b with
  | none => exact h1 b c e
  | some o =>
    by_cases n : NT o
    · rw [fr b o c n, ← c] at e; exact h b (t.2 b e)
    · unfold NT at n
      obtain ⟨ps, hp⟩ := Classical.not_forall.mp n
      have hp := Classical.not_not.mp hp
      subst hp
      exact h b (t.2 b (.inr (.inl ⟨ps, c⟩)))
theorem TAB.pinN [TabC] {P : AS} {H H2 : Hp} (t : TAB P H) (t2 : NdefX.TabsN TabC.T H2) (fr : ∀ b o, H b = some o → NT o → H2 b = some o) : TAB (pinN P H H2) H2 := t.step t2 fr (fun _ z => .inl z) fun b z w => .inr ⟨z, w⟩
structure Stt [TabC] (K : PySem.W.Frag) (P : AS) (H : Hp) (ρ : Ev) (σ : L2.St) (FE : FP) : Prop where
  pin : ∀ b, P b → H b ≠ none
  fin : ∀ i b, FE i b → H b ≠ none ∧ ¬ P b
  dj : ∀ i j b, FE i b → FE j b → i = j
  rel : ∀ i d, ρ[i]? = some (some d) → ∃ v, σ[i]? = some (some v) ∧ Rl true K P H d v (FE i)
  len : ρ.length = σ.length
  tab : TAB P H
/-- a step of the heap: what is not in U stays; what is given up (P) or in use behind it (U') was in U or is new -/
structure Tr (P : AS) (H : Hp) (U : AS) (P' : AS) (H' : Hp) (U' : AS) : Prop where
  frame : ∀ b o, H b = some o → ¬ U b → NT o → H' b = some o
  mono : ∀ b, P b → P' b
  back : ∀ b, P' b → P b ∨ U b ∨ H b = none
  sub : ∀ b, U' b → U b ∨ H b = none
  alive : ∀ b, H b ≠ none → H' b ≠ none
structure Tmp [TabC] (K : PySem.W.Frag) (P : AS) (H : Hp) (FE : FP) (d : D) (v : V) (F : AS) : Prop where
  rl : Rl true K P H d v F
  own : ∀ b, F b → H b ≠ none ∧ ¬ P b ∧ ¬ U FE b
structure Tmps [TabC] (K : PySem.W.Frag) (P : AS) (H : Hp) (FE : FP) (ds : List D) (vs : List V) (F : AS) : Prop where
  rl : Rls true K P H ds vs F
  own : ∀ b, F b → H b ≠ none ∧ ¬ P b ∧ ¬ U FE b
section
variable [TabC] {K : PySem.W.Frag} {P P' P1 P2 : AS} {H H' H1 H2 : Hp} {U0 U' U1 U2 F F1 : AS} {FE FE1 FE2 : FP} {ρ ρ1 : Ev} {σ : L2.St} {d : D} {v : V} {ds : List D} {vs : List V}
theorem Tr.refl : Tr P H U0 P H U0 := ⟨fun _ _ e _ _ => e, fun _ q => q, fun _ q => .inl q, fun _ q => .inl q, fun _ q => q⟩
theorem Tr.seq (a : Tr P H U0 P1 H1 (fun b => U1 b ∨ F1 b)) (c : Tr P1 H1 U1 P2 H2 U2) : Tr P H U0 P2 H2 (fun b => U2 b ∨ F1 b) where
  frame := fun b o e n nt => c.frame b o (a.frame b o e n nt) (fun q => (a.sub b (.inl q)).elim n (fun z => by rw [e] at z; cases z)) nt
  mono := fun b q => c.mono b (a.mono b q)
  back := fun b q => by
    rcases c.back b q with q | q | q
    · exact a.back b q
    · exact (a.sub b (.inl q)).elim (fun z => .inr (.inl z)) fun z => .inr (.inr z)
    · refine .inr (.inr ?_)
      cases e : H b with
      | none => rfl
      | some o => exact absurd q (a.alive b (by rw [e]; simp))
  sub := fun b q => by
    rcases q with q | q
    · rcases c.sub b q with q | q
      · exact a.sub b (.inl q)
      · refine .inr ?_
        cases e : H b with
        | none => rfl
        | some o => exact absurd q (a.alive b (by rw [e]; simp))
    · exact a.sub b (.inr q)
  alive := fun b q => c.alive b (a.alive b q)
theorem Tr.less (a : Tr P H U0 P1 H1 U1) (h : ∀ b, U2 b → U1 b) : Tr P H U0 P1 H1 U2 := ⟨a.frame, a.mono, a.back, fun b q => a.sub b (h b q), a.alive⟩
theorem Tr.trans (a : Tr P H U0 P1 H1 U1) (c : Tr P1 H1 U1 P2 H2 U2) : Tr P H U0 P2 H2 U2 :=
  (Tr.seq (F1 := fun _ => False) (a.less fun b q => q.elim id False.elim) c).less fun b q => .inl q
/-- what is at hand stays through a step that does not own it -/
theorem Tmp.step (t : Tmp K P1 H1 FE1 d v F1) (S : Stt K P1 H1 ρ1 σ FE1) (c : Tr P1 H1 (U FE1) P2 H2 (fun b => U FE2 b ∨ F b)) : Tmp K P2 H2 FE2 d v F1 ∧ ∀ b, F1 b → F b → False := by
  refine ⟨⟨rl_mono t.rl c.mono (fun b o e q => c.frame b o e fun ⟨i, z⟩ => ?_) fun _ q => q, fun b q => ?_⟩, fun b q z => ?_⟩
  · rcases q rfl with q | q
    · exact (S.fin i b z).2 q
    · exact (t.own b q).2.2 ⟨i, z⟩
  · obtain ⟨h1, h2, h3⟩ := t.own b q
    exact ⟨c.alive b h1, fun z => (c.back b z).elim h2 (fun z => z.elim h3 h1), fun z => (c.sub b (.inl z)).elim h3 h1⟩
  · obtain ⟨h1, h2, h3⟩ := t.own b q
    exact (c.sub b (.inr z)).elim h3 h1
theorem Tmps.step (t : Tmps K P1 H1 FE1 ds vs F1) (S : Stt K P1 H1 ρ1 σ FE1) (c : Tr P1 H1 (U FE1) P2 H2 (fun b => U FE2 b ∨ F b)) : Tmps K P2 H2 FE2 ds vs F1 ∧ ∀ b, F1 b → F b → False := by
  refine ⟨⟨rls_mono t.rl c.mono (fun b o e q => c.frame b o e fun ⟨i, z⟩ => ?_) fun _ q => q, fun b q => ?_⟩, fun b q z => ?_⟩
  · rcases q rfl with q | q
    · exact (S.fin i b z).2 q
    · exact (t.own b q).2.2 ⟨i, z⟩
  · obtain ⟨h1, h2, h3⟩ := t.own b q
    exact ⟨c.alive b h1, fun z => (c.back b z).elim h2 (fun z => z.elim h3 h1), fun z => (c.sub b (.inl z)).elim h3 h1⟩
  · obtain ⟨h1, h2, h3⟩ := t.own b q
    exact (c.sub b (.inr z)).elim h3 h1
theorem Tmp.imm (t : Tmp K P H FE d v F) (i : isImm d = true) : Tmp K P H FE d v (fun _ => False) := ⟨rl_imm t.rl i, fun _ q => q.elim⟩
/-- only new things come -/
structure New [TabC] (P : AS) (H : Hp) (P' : AS) (H' : Hp) (F : AS) : Prop where
  same : ∀ b o, H b = some o → NT o → H' b = some o
  alive : ∀ b, H b ≠ none → H' b ≠ none
  tab : TAB P H → TAB P' H'
  mono : ∀ b, P b → P' b
  back : ∀ b, P' b → P b ∨ (H b = none ∧ H' b ≠ none)
  own : ∀ b, F b → H b = none ∧ H' b ≠ none ∧ ¬ P' b
theorem New.refl : New P H P H (fun _ => False) := ⟨fun _ _ e _ => e, fun _ q => q, id, fun _ q => q, fun _ q => .inl q, fun _ q => q.elim⟩
theorem New.less (n : New P H P' H' F) (h : ∀ b, F1 b → F b) : New P H P' H' F1 := ⟨n.same, n.alive, n.tab, n.mono, n.back, fun b q => n.own b (h b q)⟩
theorem New.stt (n : New P H P' H' F) (S : Stt K P H ρ σ FE) : Stt K P' H' ρ σ FE where
  pin := fun b q => by
    rcases n.back b q with z | z
    · exact n.alive b (S.pin b z)
    · exact z.2
  fin := fun i b q => by
    obtain ⟨h1, h2⟩ := S.fin i b q
    exact ⟨n.alive b h1, fun z => (n.back b z).elim h2 fun z => h1 z.1⟩
  dj := S.dj
  rel := fun i d e => by
    obtain ⟨v, e1, r⟩ := S.rel i d e
    exact ⟨v, e1, rl_mono r n.mono (fun b o e _ => n.same b o e) fun _ q => q⟩
  len := S.len
  tab := n.tab S.tab
theorem New.tr (n : New P H P' H' F) : Tr P H U0 P' H' (fun b => U0 b ∨ F b) where
  frame := fun b o e _ => n.same b o e
  mono := n.mono
  back := fun b q => (n.back b q).imp id fun z => .inr z.1
  sub := fun b q => q.imp id fun z => (n.own b z).1
  alive := n.alive
theorem New.tmp (n : New P H P' H' F) (S : Stt K P H ρ σ FE) (r : Rl true K P' H' d v F) : Tmp K P' H' FE d v F :=
  ⟨r, fun b q => ⟨(n.own b q).2.1, (n.own b q).2.2, fun ⟨i, z⟩ => (S.fin i b z).1 (n.own b q).1⟩⟩
theorem New.trans {P3 : AS} {H3 : Hp} {F3 : AS} (n : New P H P1 H1 F1) (m : New P1 H1 P3 H3 F3) : New P H P3 H3 (fun b => F1 b ∨ F3 b) where
  same := fun b o e nt => m.same b o (n.same b o e nt) nt
  alive := fun b q => m.alive b (n.alive b q)
  tab := fun t => m.tab (n.tab t)
  mono := fun b q => m.mono b (n.mono b q)
  back := fun b q => by
    rcases m.back b q with z | z
    · exact (n.back b z).imp id fun w => ⟨w.1, m.alive b w.2⟩
    · refine .inr ⟨?_, z.2⟩
      cases e : H b with
      | none => rfl
      | some o => exact absurd z.1 (n.alive b (by rw [e]; simp))
  own := fun b q => by
    rcases q with q | q
    · obtain ⟨h1, h2, h3⟩ := n.own b q
      exact ⟨h1, m.alive b h2, fun z => (m.back b z).elim h3 fun w => h2 w.1⟩
    · obtain ⟨h1, h2, h3⟩ := m.own b q
      refine ⟨?_, h2, h3⟩
      cases e : H b with
      | none => rfl
      | some o => exact absurd h1 (n.alive b (by rw [e]; simp))
theorem alive_upd {p : Addr} {o : HO} (b : Addr) (h : H b ≠ none) : upd H p o b ≠ none := by
  unfold upd
  split
  · simp
  · exact h
/-- a new list -/
theorem New.lst {p : Addr} {o : HO} (hp : H p = none) (pin : ∀ b, P b → H b ≠ none) (no : Nd o := by constructor) : New P H P (upd H p o) (fun b => b = p) where
  same := fun b u e _ => by rw [upd_ne (ne_of_none e hp)]; exact e
  alive := alive_upd
  tab := fun t => tabs_new hp t fun z => z.nd no
  mono := fun _ q => q
  back := fun _ q => .inl q
  own := fun b q => by
    subst q
    exact ⟨hp, by rw [upd_same]; simp, fun z => pin _ z hp⟩
/-- a new thing given up at once -/
theorem New.tup {p : Addr} {o : HO} (hp : H p = none) : New P H (fun b => P b ∨ b = p) (upd H p o) (fun _ => False) where
  same := fun b u e _ => by rw [upd_ne (ne_of_none e hp)]; exact e
  alive := alive_upd
  tab := fun t => t.upd (tabs_new0 hp t.1) (fun _ z => .inl z) fun _ => .inr rfl
  mono := fun _ q => .inl q
  back := fun b q => q.imp id fun z => by subst z; exact ⟨hp, by rw [upd_same]; simp⟩
  own := fun b q => q.elim
/-- a step that leaves what was there -/
theorem New.pinN {H2 : Hp} (fr : ∀ b o, H b = some o → NT o → H2 b = some o) (al : ∀ b, H b ≠ none → H2 b ≠ none) (tb : NdefX.TabsN TabC.T H2) (pin : ∀ b, P b → H b ≠ none) (nw : ∀ b, F b → H b = none ∧ H2 b ≠ none ∧ ¬ IsTT (H2 b)) : New P H (pinN P H H2) H2 F where
  same := fr
  alive := al
  tab := fun t => t.pinN tb fr
  mono := fun _ z => .inl z
  back := fun b z => z.imp id fun w => ⟨w.1, fun e => by rw [e] at w; exact w.2.none⟩
  own := fun b z => ⟨(nw b z).1, (nw b z).2.1, fun w => w.elim (fun w => pin b w (nw b z).1) fun w => (nw b z).2.2 w.2⟩
/-- the things at hand are given up -/
theorem Stt.give (S : Stt K P H ρ σ FE) (h : ∀ b, F b → H b ≠ none ∧ ¬ U FE b) : Stt K (fun b => P b ∨ F b) H ρ σ FE where
  pin := fun b q => q.elim (S.pin b) fun z => (h b z).1
  fin := fun i b q => ⟨(S.fin i b q).1, fun z => z.elim (S.fin i b q).2 fun z => (h b z).2 ⟨i, q⟩⟩
  dj := S.dj
  rel := fun i d e => by
    obtain ⟨v, e1, r⟩ := S.rel i d e
    exact ⟨v, e1, rl_mono r (fun _ q => .inl q) (fun b o e _ _ => e) fun _ q => q⟩
  len := S.len
  tab := S.tab.mono fun _ z => .inl z
theorem Tr.give (a : Tr P H U0 P1 H1 (fun b => U1 b ∨ F b)) : Tr P H U0 (fun b => P1 b ∨ F b) H1 U1 where
  frame := a.frame
  mono := fun b q => .inl (a.mono b q)
  back := fun b q => q.elim (a.back b) fun z => (a.sub b (.inr z)).elim (fun w => .inr (.inl w)) fun w => .inr (.inr w)
  sub := fun b q => a.sub b (.inl q)
  alive := a.alive
/-- a slot is written -/
theorem Stt.set (S : Stt K P H ρ σ FE) (t : Tmp K P H FE d v F) (i : Nat) : Stt K P H (ρ.set i (some d)) (σ.set i (some v)) (fun j => if j = i then F else FE j) where
  pin := S.pin
  fin := fun j b q => by
    by_cases e : j = i
    · rw [if_pos e] at q
      exact ⟨(t.own b q).1, (t.own b q).2.1⟩
    · rw [if_neg e] at q
      exact S.fin j b q
  dj := fun j k b q r => by
    by_cases e : j = i <;> by_cases e' : k = i
    · rw [e, e']
    · rw [if_pos e] at q; rw [if_neg e'] at r
      exact ((t.own b q).2.2 ⟨k, r⟩).elim
    · rw [if_neg e] at q; rw [if_pos e'] at r
      exact ((t.own b r).2.2 ⟨j, q⟩).elim
    · rw [if_neg e] at q; rw [if_neg e'] at r
      exact S.dj j k b q r
  rel := fun j d' e => by
    by_cases h : j = i
    · subst h
      have hl : j < ρ.length := by
        have := (List.getElem?_eq_some_iff.mp e).1
        simpa using this
      rw [List.getElem?_set_self hl] at e
      cases e
      refine ⟨v, by rw [List.getElem?_set_self (by rw [← S.len]; exact hl)], ?_⟩
      rw [if_pos rfl]
      exact t.rl
    · rw [List.getElem?_set_ne (Ne.symm h)] at e
      obtain ⟨w, e1, r⟩ := S.rel j d' e
      refine ⟨w, by rw [List.getElem?_set_ne (Ne.symm h)]; exact e1, ?_⟩
      rw [if_neg h]
      exact r
  len := by simpa using S.len
  tab := S.tab
theorem Stt.set_sub (i : Nat) (b : Addr) (q : U (fun j => if j = i then F else FE j) b) : U FE b ∨ F b := by
  obtain ⟨j, q⟩ := q
  by_cases e : j = i
  · rw [if_pos e] at q; exact .inr q
  · rw [if_neg e] at q; exact .inl ⟨j, q⟩
end
end Hap
namespace Hap
open PySem PySem.Spec PyProof.Rows L2
variable [TabC]
abbrev RXR := DX → AS → Hp → Value → Option Addr → Prop
abbrev E_ : AS := fun _ => False
def tE (K : PySem.W.Frag) (RX : RXR) (W : WX) (f : Ev → R D) : TE := fun σ H Q => ∃ P ρ FE, Stt K P H ρ σ FE ∧ match f ρ with
  | .ok d ρ' => ∀ v P' H' FE' F, Stt K P' H' ρ' σ FE' → Tmp K P' H' FE' d v F → Tr P H (U FE) P' H' (fun b => U FE' b ∨ F b) → Q v H'
  | .exc x ρ' => ∀ cls dx P' H' FE', Stt K P' H' ρ' σ FE' → Tr P H (U FE) P' H' (U FE') → RX x P' H' cls dx → W cls dx σ H'
  | .stk => False
def tV (K : PySem.W.Frag) (f : Ev → Option D) : TE := fun σ H Q => ∃ P ρ FE, Stt K P H ρ σ FE ∧ match f ρ with
  | some d => ∀ v P' H', New P H P' H' E_ → Rl false K P' H' d v E_ → Q v H'
  | none => False
def tA (K : PySem.W.Frag) (RX : RXR) (W : WX) (f : Ev → R (List D)) : TA := fun σ H Q => ∃ P ρ FE, Stt K P H ρ σ FE ∧ match f ρ with
  | .ok ds ρ' => ∀ vs P' H' FE' F, Stt K P' H' ρ' σ FE' → Tmps K P' H' FE' ds vs F → Tr P H (U FE) P' H' (fun b => U FE' b ∨ F b) → Q vs H'
  | .exc x ρ' => ∀ cls dx P' H' FE', Stt K P' H' ρ' σ FE' → Tr P H (U FE) P' H' (U FE') → RX x P' H' cls dx → W cls dx σ H'
  | .stk => False
def tAV (K : PySem.W.Frag) (f : Ev → Option (List D)) : TA := fun σ H Q => ∃ P ρ FE, Stt K P H ρ σ FE ∧ match f ρ with
  | some ds => ∀ vs P' H', New P H P' H' E_ → Rls false K P' H' ds vs E_ → Q vs H'
  | none => False
def tT (K : PySem.W.Frag) (RX : RXR) (W : WX) (f : Ev → R Bool) : TT := fun σ H Q => ∃ P ρ FE, Stt K P H ρ σ FE ∧ match f ρ with
  | .ok b ρ' => ∀ P' H' FE', Stt K P' H' ρ' σ FE' → Tr P H (U FE) P' H' (U FE') → Q b H'
  | .exc x ρ' => ∀ cls dx P' H' FE', Stt K P' H' ρ' σ FE' → Tr P H (U FE) P' H' (U FE') → RX x P' H' cls dx → W cls dx σ H'
  | .stk => False
abbrev DE (X : Cx) (RX : RXR) (W : WX) (e : Expr) (f : Ev → R D) : Prop := PE X e (tE X.K RX W f)
abbrev DV (X : Cx) (e : Expr) (f : Ev → Option D) : Prop := PE X e (tV X.K f)
abbrev DA (X : Cx) (RX : RXR) (W : WX) (es : List Expr) (f : Ev → R (List D)) : Prop := PA X es (tA X.K RX W f)
abbrev DAV (X : Cx) (es : List Expr) (f : Ev → Option (List D)) : Prop := PA X es (tAV X.K f)
abbrev DT (X : Cx) (RX : RXR) (W : WX) (e : Expr) (f : Ev → R Bool) : Prop := PT X e (tT X.K RX W f)
theorem pe_imp {X : Cx} {e : Expr} {t t' : TE} (h : PE X e t) (w : ∀ σ H Q, t' σ H Q → t σ H Q) : PE X e t' := ⟨fun pins s σ H Q I q => h.run pins s σ H Q I (w _ _ _ q)⟩
theorem pt_imp {X : Cx} {e : Expr} {t t' : TT} (h : PT X e t) (w : ∀ σ H Q, t' σ H Q → t σ H Q) : PT X e t' := ⟨fun pins s σ H Q I q => h.run pins s σ H Q I (w _ _ _ q)⟩
theorem pw_imp {X : Cx} {e : Expr} {t t' : TT} (h : PW X e t) (w : ∀ σ H Q, t' σ H Q → t σ H Q) : PW X e t' := ⟨fun wh pins s σ H Q I q => h.run wh pins s σ H Q I (w _ _ _ q)⟩
theorem pa_imp {X : Cx} {e : List Expr} {t t' : TA} (h : PA X e t) (w : ∀ σ H Q, t' σ H Q → t σ H Q) : PA X e t' := ⟨fun pos pins s σ H Q I q => h.run pos pins s σ H Q I (w _ _ _ q)⟩
theorem ps_imp {X : Cx} {e : Stmt} {t t' : TS} (h : PS X e t) (w : ∀ D σ H, t' D σ H → t D σ H) : PS X e t' := ⟨fun pins s σ H D I q => h.run pins s σ H D I (w _ _ _ q)⟩
theorem pss_imp {X : Cx} {e : List Stmt} {t t' : TS} (h : PSs X e t) (w : ∀ D σ H, t' D σ H → t D σ H) : PSs X e t' := ⟨fun pins s σ H D I q => h.run pins s σ H D I (w _ _ _ q)⟩
def R.bind {α β : Type} (x : R α) (f : α → Ev → R β) : R β := match x with
  | .ok a ρ => f a ρ
  | .exc x ρ => .exc x ρ
  | .stk => .stk
def R.of {α : Type} (x : Option α) (ρ : Ev) : R α := match x with
  | some a => .ok a ρ
  | none => .stk
def VOp1 (K : PySem.W.Frag) (r : V → Hp → VK → Prop) (g : D → Option D) : Prop := ∀ (P : AS) (H : Hp) (d : D) (v : V) (x : D) (Q : VK), (∀ b, P b → H b ≠ none) → Rl false K P H d v E_ → g d = some x →
  (∀ u P' H' F, New P H P' H' F → Rl true K P' H' x u F → Q u H') → r v H Q
def VOp2 (K : PySem.W.Frag) (r : R2) (g : D → D → Option D) : Prop := ∀ (P : AS) (H : Hp) (d e : D) (v w : V) (x : D) (Q : VK), (∀ b, P b → H b ≠ none) → Rl false K P H d v E_ → Rl false K P H e w E_ → g d e = some x →
  (∀ u P' H' F, New P H P' H' F → Rl true K P' H' x u F → Q u H') → r v w H Q
def VOpN (K : PySem.W.Frag) (r : List V → Hp → VK → Prop) (g : List D → Option D) : Prop := ∀ (P : AS) (H : Hp) (ds : List D) (vs : List V) (x : D) (Q : VK), (∀ b, P b → H b ≠ none) → Rls false K P H ds vs E_ → g ds = some x →
  (∀ u P' H' F, New P H P' H' F → Rl true K P' H' x u F → Q u H') → r vs H Q
def fOp1 (g : D → Option D) (f : Ev → R D) : Ev → R D := fun ρ => (f ρ).bind fun d ρ' => R.of (g d) ρ'
def fOp2 (g : D → D → Option D) (f h : Ev → R D) : Ev → R D := fun ρ => (f ρ).bind fun d ρ1 => (h ρ1).bind fun e ρ2 => R.of (g d e) ρ2
def fOp2V (g : D → D → Option D) (f : Ev → R D) (h : Ev → Option D) : Ev → R D := fun ρ => (f ρ).bind fun d ρ1 => R.of ((h ρ1).bind (g d)) ρ1
def fOpN (g : List D → Option D) (f : Ev → R (List D)) : Ev → R D := fun ρ => (f ρ).bind fun ds ρ' => R.of (g ds) ρ'
def vOp1 (g : D → Option D) (f : Ev → Option D) : Ev → Option D := fun ρ => (f ρ).bind g
def vOp2 (g : D → D → Option D) (f h : Ev → Option D) : Ev → Option D := fun ρ => (f ρ).bind fun d => (h ρ).bind (g d)
def vOpN (g : List D → Option D) (f : Ev → Option (List D)) : Ev → Option D := fun ρ => (f ρ).bind g
section
variable {K : PySem.W.Frag} {RX : RXR} {W : WX} {σ : L2.St} {H : Hp} {Q : VK}
theorem Tr.less' {P P1 : AS} {H H1 : Hp} {U0 U1 F : AS} (a : Tr P H U0 P1 H1 (fun b => U1 b ∨ F b)) : Tr P H U0 P1 H1 U1 := a.less fun _ q => .inl q
theorem e_op1 {r : V → Hp → VK → Prop} {g : D → Option D} {f : Ev → R D} (hv : VOp1 K r g) (h : tE K RX W (fOp1 g f) σ H Q) : tE K RX W f σ H (fun v H1 => r v H1 Q) := by
  obtain ⟨P, ρ, FE, S, h⟩ := h
  refine ⟨P, ρ, FE, S, ?_⟩
  unfold fOp1 at h
  cases e : f ρ with
  | ok d ρ1 =>
    simp only [e, R.bind] at h
    intro v P1 H1 FE1 F1 S1 T1 t1
    cases e2 : g d with
    | none => simp only [e2, R.of] at h
    | some x =>
      simp only [e2, R.of] at h
      exact hv P1 H1 d v x Q S1.pin (rl_view T1.rl) e2 fun u P2 H2 F2 n r => h u P2 H2 FE1 F2 (n.stt S1) (n.tmp S1 r) (t1.less'.trans n.tr)
  | exc x ρ1 =>
    simp only [e, R.bind] at h
    exact h
  | stk =>
    simp only [e, R.bind] at h
theorem e_opN {r : List V → Hp → VK → Prop} {g : List D → Option D} {f : Ev → R (List D)} (hv : VOpN K r g) (h : tE K RX W (fOpN g f) σ H Q) : tA K RX W f σ H (fun v H1 => r v H1 Q) := by
  obtain ⟨P, ρ, FE, S, h⟩ := h
  refine ⟨P, ρ, FE, S, ?_⟩
  unfold fOpN at h
  cases e : f ρ with
  | ok d ρ1 =>
    simp only [e, R.bind] at h
    intro v P1 H1 FE1 F1 S1 T1 t1
    cases e2 : g d with
    | none => simp only [e2, R.of] at h
    | some x =>
      simp only [e2, R.of] at h
      exact hv P1 H1 d v x Q S1.pin (rls_view T1.rl) e2 fun u P2 H2 F2 n r => h u P2 H2 FE1 F2 (n.stt S1) (n.tmp S1 r) (t1.less'.trans n.tr)
  | exc x ρ1 =>
    simp only [e, R.bind] at h
    exact h
  | stk =>
    simp only [e, R.bind] at h
theorem e_op2 {r : R2} {g : D → D → Option D} {f k : Ev → R D} (hv : VOp2 K r g) (h : tE K RX W (fOp2 g f k) σ H Q) : tE K RX W f σ H (fun v H1 => tE K RX W k σ H1 fun w H2 => r v w H2 Q) := by
  obtain ⟨P, ρ, FE, S, h⟩ := h
  refine ⟨P, ρ, FE, S, ?_⟩
  unfold fOp2 at h
  cases e : f ρ with
  | ok d ρ1 =>
    simp only [e, R.bind] at h
    intro v P1 H1 FE1 F1 S1 T1 t1
    refine ⟨P1, ρ1, FE1, S1, ?_⟩
    cases e1 : k ρ1 with
    | ok d' ρ2 =>
      simp only [e1] at h
      intro w P2 H2 FE2 F2 S2 T2 t2
      cases e2 : g d d' with
      | none => simp only [e2, R.of] at h
      | some x =>
        simp only [e2, R.of] at h
        have T1' := (T1.step S1 t2).1
        exact hv P2 H2 d d' v w x Q S2.pin (rl_view T1'.rl) (rl_view T2.rl) e2 fun u P3 H3 F3 n r => h u P3 H3 FE2 F3 (n.stt S2) (n.tmp S2 r) ((t1.less'.trans t2.less').trans n.tr)
    | exc x ρ2 =>
      simp only [e1] at h
      intro cls dx P2 H2 FE2 S2 t2
      exact h cls dx P2 H2 FE2 S2 (t1.less'.trans t2)
    | stk => simp only [e1] at h
  | exc x ρ1 =>
    simp only [e, R.bind] at h
    exact h
  | stk =>
    simp only [e, R.bind] at h
theorem e_op2V {r : R2} {g : D → D → Option D} {f : Ev → R D} {k : Ev → Option D} (hv : VOp2 K r g) (h : tE K RX W (fOp2V g f k) σ H Q) : tE K RX W f σ H (fun v H1 => tV K k σ H1 fun w H2 => r v w H2 Q) := by
  obtain ⟨P, ρ, FE, S, h⟩ := h
  refine ⟨P, ρ, FE, S, ?_⟩
  unfold fOp2V at h
  cases e : f ρ with
  | ok d ρ1 =>
    simp only [e, R.bind] at h
    intro v P1 H1 FE1 F1 S1 T1 t1
    refine ⟨P1, ρ1, FE1, S1, ?_⟩
    cases e1 : k ρ1 with
    | none => simp only [e1, Option.bind, R.of] at h
    | some d' =>
      simp only [e1, Option.bind] at h
      intro w P2 H2 n2 r2
      cases e2 : g d d' with
      | none => simp only [e2, R.of] at h
      | some x =>
        simp only [e2, R.of] at h
        have r1 : Rl false K P2 H2 d v E_ := rl_mono (rl_view T1.rl) n2.mono (fun b o e _ => n2.same b o e) (fun _ q => q)
        exact hv P2 H2 d d' v w x Q (n2.stt S1).pin r1 r2 e2 fun u P3 H3 F3 n r => h u P3 H3 FE1 F3 (n.stt (n2.stt S1)) (n.tmp (n2.stt S1) r) ((t1.less'.trans n2.tr.less').trans n.tr)
  | exc x ρ1 =>
    simp only [e, R.bind] at h
    exact h
  | stk =>
    simp only [e, R.bind] at h
theorem New.less_ {P P' : AS} {H H' : Hp} {F : AS} (n : New P H P' H' F) : New P H P' H' E_ := n.less fun _ q => q.elim
theorem New.trans_ {P P' P'' : AS} {H H' H'' : Hp} (n : New P H P' H' E_) (m : New P' H' P'' H'' E_) : New P H P'' H'' E_ := (n.trans m).less_
theorem v_op1 {r : V → Hp → VK → Prop} {g : D → Option D} {f : Ev → Option D} (hv : VOp1 K r g) (h : tV K (vOp1 g f) σ H Q) : tV K f σ H (fun v H1 => r v H1 Q) := by
  obtain ⟨P, ρ, FE, S, h⟩ := h
  refine ⟨P, ρ, FE, S, ?_⟩
  unfold vOp1 at h
  cases e : f ρ with
  | none => simp only [e, Option.bind] at h
  | some d =>
    simp only [e, Option.bind] at h
    intro v P1 H1 n1 r1
    cases e2 : g d with
    | none => simp only [e2] at h
    | some x =>
      simp only [e2] at h
      exact hv P1 H1 d v x Q (n1.stt S).pin r1 e2 fun u P2 H2 F2 n r => h u P2 H2 (n1.trans_ n.less_) (rl_view r)
theorem v_opN {r : List V → Hp → VK → Prop} {g : List D → Option D} {f : Ev → Option (List D)} (hv : VOpN K r g) (h : tV K (vOpN g f) σ H Q) : tAV K f σ H (fun v H1 => r v H1 Q) := by
  obtain ⟨P, ρ, FE, S, h⟩ := h
  refine ⟨P, ρ, FE, S, ?_⟩
  unfold vOpN at h
  cases e : f ρ with
  | none => simp only [e, Option.bind] at h
  | some d =>
    simp only [e, Option.bind] at h
    intro v P1 H1 n1 r1
    cases e2 : g d with
    | none => simp only [e2] at h
    | some x =>
      simp only [e2] at h
      exact hv P1 H1 d v x Q (n1.stt S).pin r1 e2 fun u P2 H2 F2 n r => h u P2 H2 (n1.trans_ n.less_) (rl_view r)
theorem v_op2 {r : R2} {g : D → D → Option D} {f k : Ev → Option D} (hv : VOp2 K r g) (h : tV K (vOp2 g f k) σ H Q) : tV K f σ H (fun v H1 => tV K k σ H1 fun w H2 => r v w H2 Q) := by
  obtain ⟨P, ρ, FE, S, h⟩ := h
  refine ⟨P, ρ, FE, S, ?_⟩
  unfold vOp2 at h
  cases e : f ρ with
  | none => simp only [e, Option.bind] at h
  | some d =>
    simp only [e, Option.bind] at h
    intro v P1 H1 n1 r1
    refine ⟨P1, ρ, FE, n1.stt S, ?_⟩
    cases e1 : k ρ with
    | none => simp only [e1] at h
    | some d' =>
      simp only [e1] at h
      intro w P2 H2 n2 r2
      cases e2 : g d d' with
      | none => simp only [e2] at h
      | some x =>
        simp only [e2] at h
        have r1' : Rl false K P2 H2 d v E_ := rl_mono r1 n2.mono (fun b o e _ => n2.same b o e) (fun _ q => q)
        exact hv P2 H2 d d' v w x Q (n2.stt (n1.stt S)).pin r1' r2 e2 fun u P3 H3 F3 n r => h u P3 H3 ((n1.trans_ n2).trans_ n.less_) (rl_view r)
end
def fVar (i : Nat) : Ev → R D := fun ρ => match ρ[i]? with
  | some (some d) => .ok (frz d) (ρ.set i (some (frz d)))
  | _ => .stk
def vVar (i : Nat) : Ev → Option D := fun ρ => match ρ[i]? with
  | some (some d) => some d
  | _ => none
/-- what is seen and is no one's own may be taken -/
def fI (f : Ev → Option D) : Ev → R D := fun ρ => match f ρ with
  | some d => if isImm d = true then .ok d ρ else .stk
  | none => .stk
def fNil : Ev → R (List D) := fun ρ => .ok [] ρ
def fCons (f : Ev → R D) (g : Ev → R (List D)) : Ev → R (List D) := fun ρ => (f ρ).bind fun d ρ1 => (g ρ1).bind fun ds ρ2 => .ok (d :: ds) ρ2
def vNil : Ev → Option (List D) := fun _ => some []
def vCons (f : Ev → Option D) (g : Ev → Option (List D)) : Ev → Option (List D) := fun ρ => (f ρ).bind fun d => (g ρ).bind fun ds => some (d :: ds)
section
variable {X : Cx} {RX : RXR} {W : WX}
theorem de_var {i : Nat} {x : Str} {pos : Pos} (h : PE X (.Name x pos) (tVar i)) : DE X RX W (.Name x pos) (fVar i) := by
  refine pe_imp h fun σ H Q q => ?_
  obtain ⟨P, ρ, FE, S, q⟩ := q
  unfold fVar at q
  cases e : ρ[i]? with
  | none => simp only [e] at q
  | some o =>
    cases o with
    | none => simp only [e] at q
    | some d =>
      simp only [e] at q
      obtain ⟨v, ev, r⟩ := S.rel i d e
      refine ⟨v, ev, ?_⟩
      have hF : ∀ b, FE i b → H b ≠ none := fun b z => (S.fin i b z).1
      refine q v (fun b => P b ∨ FE i b) H (fun j b => j ≠ i ∧ FE j b) E_ ⟨fun b z => z.elim (S.pin b) (hF b), fun j b z => ⟨(S.fin j b z.2).1, fun w => w.elim (S.fin j b z.2).2 fun w => z.1 (S.dj j i b z.2 w)⟩, fun j k b z w => S.dj j k b z.2 w.2, fun j d' e' => ?_, by simpa using S.len, S.tab.mono fun _ z => .inl z⟩
        ⟨rl_frz r (fun b z => .inl z) fun b z => .inr z, fun b z => z.elim⟩ ⟨fun b o z _ _ => z, fun b z => .inl z, fun b z => z.imp id fun w => .inl ⟨i, w⟩, fun b z => z.elim (fun ⟨j, w⟩ => .inl ⟨j, w.2⟩) False.elim, fun b z => z⟩
      by_cases hj : j = i
      · subst hj
        have hl : j < ρ.length := (List.getElem?_eq_some_iff.mp e).1
        rw [List.getElem?_set_self hl] at e'
        cases e'
        exact ⟨v, ev, rl_frz r (fun b z => .inl z) fun b z => .inr z⟩
      · rw [List.getElem?_set_ne (Ne.symm hj)] at e'
        obtain ⟨w, e1, r1⟩ := S.rel j d' e'
        exact ⟨w, e1, rl_mono r1 (fun b z => .inl z) (fun b o z _ _ => z) fun b z => ⟨hj, z⟩⟩
theorem dv_var {i : Nat} {x : Str} {pos : Pos} (h : PE X (.Name x pos) (tVar i)) : DV X (.Name x pos) (vVar i) := by
  refine pe_imp h fun σ H Q q => ?_
  obtain ⟨P, ρ, FE, S, q⟩ := q
  unfold vVar at q
  cases e : ρ[i]? with
  | none => simp only [e] at q
  | some o =>
    cases o with
    | none => simp only [e] at q
    | some d =>
      simp only [e] at q
      obtain ⟨v, ev, r⟩ := S.rel i d e
      exact ⟨v, ev, q v P H New.refl (rl_view r)⟩
theorem de_ofV {e : Expr} {f : Ev → Option D} (h : DV X e f) : DE X RX W e (fI f) := by
  refine pe_imp h fun σ H Q q => ?_
  obtain ⟨P, ρ, FE, S, q⟩ := q
  unfold fI at q
  refine ⟨P, ρ, FE, S, ?_⟩
  cases e : f ρ with
  | none => simp only [e] at q
  | some d =>
    simp only [e] at q
    intro v P' H' n r
    by_cases i : isImm d = true
    · simp only [if_pos i] at q
      exact q v P' H' FE E_ (n.stt S) ⟨rl_imm r i, fun b z => z.elim⟩ (n.tr)
    · simp only [if_neg i] at q
theorem de_con {e : Expr} {v : V} {d : D} (h : PE X e (tC v)) (r : ∀ P H, Rl true X.K P H d v E_) : DE X RX W e (fun ρ => .ok d ρ) := by
  refine pe_imp h fun σ H Q q => ?_
  obtain ⟨P, ρ, FE, S, q⟩ := q
  exact q v P H FE E_ S ⟨r P H, fun b z => z.elim⟩ (Tr.refl.less fun b z => z.elim id False.elim)
theorem dv_con {e : Expr} {v : V} {d : D} (h : PE X e (tC v)) (r : ∀ P H, Rl true X.K P H d v E_) : DV X e (fun _ => some d) := by
  refine pe_imp h fun σ H Q q => ?_
  obtain ⟨P, ρ, FE, S, q⟩ := q
  exact q v P H New.refl (rl_view (r P H))
theorem da_nil : DA X RX W [] fNil := by
  refine pa_imp pa_nil fun σ H Q q => ?_
  obtain ⟨P, ρ, FE, S, q⟩ := q
  exact q [] P H FE E_ S ⟨.nil, fun b z => z.elim⟩ (Tr.refl.less fun b z => z.elim id False.elim)
theorem dav_nil : DAV X [] vNil := by
  refine pa_imp pa_nil fun σ H Q q => ?_
  obtain ⟨P, ρ, FE, S, q⟩ := q
  exact q [] P H New.refl .nil
theorem da_cons {e : Expr} {es : List Expr} {f : Ev → R D} {g : Ev → R (List D)} (h : DE X RX W e f) (t : DA X RX W es g) (hs : starEach (e :: es) X.env = (false, eval e X.env) :: starEach es X.env := by rfl) : DA X RX W (e :: es) (fCons f g) := by
  refine pa_imp (pa_cons h t hs) fun σ H Q q => ?_
  obtain ⟨P, ρ, FE, S, q⟩ := q
  refine ⟨P, ρ, FE, S, ?_⟩
  unfold fCons at q
  cases e : f ρ with
  | ok d ρ1 =>
    simp only [e, R.bind] at q
    intro v P1 H1 FE1 F1 S1 T1 t1
    refine ⟨P1, ρ1, FE1, S1, ?_⟩
    cases e1 : g ρ1 with
    | ok ds ρ2 =>
      simp only [e1] at q
      intro vs P2 H2 FE2 F2 S2 T2 t2
      obtain ⟨T1', dj⟩ := T1.step S1 t2
      refine q (v :: vs) P2 H2 FE2 (fun b => F1 b ∨ F2 b) S2 ⟨.cons T1'.rl T2.rl (fun b z => .inl z) (fun b z => .inr z) (fun b z w => dj b z w), fun b z => z.elim (T1'.own b) (T2.own b)⟩ ((t1.seq t2).less fun b z => ?_)
      rcases z with z | z | z
      · exact .inl (.inl z)
      · exact .inr z
      · exact .inl (.inr z)
    | exc x ρ2 =>
      simp only [e1] at q
      intro cls dx P2 H2 FE2 S2 t2
      exact q cls dx P2 H2 FE2 S2 (t1.less'.trans t2)
    | stk => simp only [e1] at q
  | exc x ρ1 =>
    simp only [e, R.bind] at q
    exact q
  | stk => simp only [e, R.bind] at q
theorem dav_cons {e : Expr} {es : List Expr} {f : Ev → Option D} {g : Ev → Option (List D)} (h : DV X e f) (t : DAV X es g) (hs : starEach (e :: es) X.env = (false, eval e X.env) :: starEach es X.env := by rfl) : DAV X (e :: es) (vCons f g) := by
  refine pa_imp (pa_cons h t hs) fun σ H Q q => ?_
  obtain ⟨P, ρ, FE, S, q⟩ := q
  refine ⟨P, ρ, FE, S, ?_⟩
  unfold vCons at q
  cases e : f ρ with
  | none => simp only [e, Option.bind] at q
  | some d =>
    simp only [e, Option.bind] at q
    intro v P1 H1 n1 r1
    refine ⟨P1, ρ, FE, n1.stt S, ?_⟩
    cases e1 : g ρ with
    | none => simp only [e1] at q
    | some ds =>
      simp only [e1] at q
      intro vs P2 H2 n2 r2
      exact q (v :: vs) P2 H2 (n1.trans_ n2) (.cons (rl_mono r1 n2.mono (fun b o e _ => n2.same b o e) fun _ q => q) r2 (fun b z => z) (fun b z => z) fun b z => z.elim)
end
end Hap
namespace Hap
open PySem PySem.Spec PyProof.Rows L2
variable [TabC]
def Kp (kp : List Nat) (σ σ' : L2.St) : Prop := σ'.length = σ.length ∧ ∀ i, i ∈ kp → σ'[i]? = σ[i]?
theorem Kp.refl {kp : List Nat} {σ : L2.St} : Kp kp σ σ := ⟨rfl, fun _ _ => rfl⟩
theorem Kp.trans {kp : List Nat} {σ σ1 σ2 : L2.St} (a : Kp kp σ σ1) (b : Kp kp σ1 σ2) : Kp kp σ σ2 := ⟨b.1.trans a.1, fun i h => (b.2 i h).trans (a.2 i h)⟩
theorem Kp.set {kp : List Nat} {σ : L2.St} {i : Nat} {o : Option V} (h : i ∉ kp) : Kp kp σ (σ.set i o) := ⟨List.length_set, fun j hj => by
  rw [List.getElem?_set_ne]
  intro e; subst e; exact h hj⟩
def PoS (K : PySem.W.Frag) (RX : RXR) (W : WX) (kp : List Nat) (D : Ends) (P : AS) (σ : L2.St) (H : Hp) (FE : FP) (r : RS) : Prop := match r with
  | .nx ρ' => ∀ σ' P' H' FE', Stt K P' H' ρ' σ' FE' → Tr P H (U FE) P' H' (U FE') → Kp kp σ σ' → D.nx σ' H'
  | .bk ρ' => ∀ σ' P' H' FE', Stt K P' H' ρ' σ' FE' → Tr P H (U FE) P' H' (U FE') → Kp kp σ σ' → D.bk σ' H'
  | .ct ρ' => ∀ σ' P' H' FE', Stt K P' H' ρ' σ' FE' → Tr P H (U FE) P' H' (U FE') → Kp kp σ σ' → D.ct σ' H'
  | .rt d ρ' => ∀ v σ' P' H' FE' F, Stt K P' H' ρ' σ' FE' → Tmp K P' H' FE' d v F → Tr P H (U FE) P' H' (fun b => U FE' b ∨ F b) → Kp kp σ σ' → D.rt v H'
  | .exc x ρ' => ∀ cls dx σ' P' H' FE', Stt K P' H' ρ' σ' FE' → Tr P H (U FE) P' H' (U FE') → Kp kp σ σ' → RX x P' H' cls dx → W cls dx σ' H'
  | .stk => False
def tS (K : PySem.W.Frag) (RX : RXR) (W : WX) (kp : List Nat) (g : Ev → RS) : TS := fun D σ H => ∃ P ρ FE, Stt K P H ρ σ FE ∧ PoS K RX W kp D P σ H FE (g ρ)
abbrev DS (X : Cx) (RX : RXR) (W : WX) (kp : List Nat) (s : Stmt) (g : Ev → RS) : Prop := PS X s (tS X.K RX W kp g)
abbrev DSs (X : Cx) (RX : RXR) (W : WX) (kp : List Nat) (s : List Stmt) (g : Ev → RS) : Prop := PSs X s (tS X.K RX W kp g)
def fNext : Ev → RS := .nx
def fSeq (g k : Ev → RS) : Ev → RS := fun ρ => match g ρ with
  | .nx ρ' => k ρ'
  | .rt d ρ' => .rt d ρ'
  | .bk ρ' => .bk ρ'
  | .ct ρ' => .ct ρ'
  | .exc x ρ' => .exc x ρ'
  | .stk => .stk
def RS.of {α : Type} (r : R α) (k : α → Ev → RS) : RS := match r with
  | .ok a ρ => k a ρ
  | .exc x ρ => .exc x ρ
  | .stk => .stk
def fRet (f : Ev → R D) : Ev → RS := fun ρ => RS.of (f ρ) .rt
def fDrop (f : Ev → R D) : Ev → RS := fun ρ => RS.of (f ρ) fun _ ρ' => .nx ρ'
def fIf (c : Ev → R Bool) (g k : Ev → RS) : Ev → RS := fun ρ => RS.of (c ρ) fun b ρ' => if b = true then g ρ' else k ρ'
/-- an assignment: the value, the target -/
def fAsg (f : Ev → R D) (t : D → Ev → Option Ev) : Ev → RS := fun ρ => RS.of (f ρ) fun d ρ' => match t d ρ' with
  | some ρ2 => .nx ρ2
  | none => .stk
section
variable {K : PySem.W.Frag} {RX : RXR} {W : WX} {kp : List Nat} {D : Ends} {P P1 : AS} {σ σ1 : L2.St} {H H1 : Hp} {FE FE1 : FP}
/-- from a later state -/
theorem PoS.later {r : RS} (h : PoS K RX W kp D P σ H FE r) (t : Tr P H (U FE) P1 H1 (U FE1)) (k : Kp kp σ σ1) : PoS K RX W kp D P1 σ1 H1 FE1 r := by
  cases r with
  | nx ρ => exact fun σ' P' H' FE' S u kk => h σ' P' H' FE' S (t.trans u) (k.trans kk)
  | bk ρ => exact fun σ' P' H' FE' S u kk => h σ' P' H' FE' S (t.trans u) (k.trans kk)
  | ct ρ => exact fun σ' P' H' FE' S u kk => h σ' P' H' FE' S (t.trans u) (k.trans kk)
  | rt d ρ => exact fun v σ' P' H' FE' F S T u kk => h v σ' P' H' FE' F S T (t.trans u) (k.trans kk)
  | exc x ρ => exact fun cls dx σ' P' H' FE' S u kk => h cls dx σ' P' H' FE' S (t.trans u) (k.trans kk)
  | stk => exact h
end
section
variable {X : Cx} {RX : RXR} {W : WX} {kp : List Nat}
theorem dss_nil : DSs X RX W kp [] fNext := pss_imp pss_nil fun D σ H ⟨P, ρ, FE, S, q⟩ => q σ P H FE S Tr.refl Kp.refl
theorem dss_cons {s : Stmt} {ss : List Stmt} {g k : Ev → RS} (h : DS X RX W kp s g) (t : DSs X RX W kp ss k) : DSs X RX W kp (s :: ss) (fSeq g k) := by
  refine pss_imp (pss_cons h t) fun D σ H q => ?_
  obtain ⟨P, ρ, FE, S, q⟩ := q
  refine ⟨P, ρ, FE, S, ?_⟩
  unfold fSeq at q
  cases e : g ρ with
  | nx ρ1 =>
    simp only [e] at q
    exact fun σ1 P1 H1 FE1 S1 t1 k1 => ⟨P1, ρ1, FE1, S1, q.later t1 k1⟩
  | rt d ρ1 => simp only [e] at q; exact q
  | bk ρ1 => simp only [e] at q; exact q
  | ct ρ1 => simp only [e] at q; exact q
  | exc x ρ1 => simp only [e] at q; exact q
  | stk => simp only [e] at q; exact q
theorem dss_one {s : Stmt} {g : Ev → RS} (h : DS X RX W kp s g) : DSs X RX W kp [s] g := pss_one h
theorem ds_ret {e : Expr} {f : Ev → R D} {pos : Pos} (h : DE X RX W e f) : DS X RX W kp (.Return (some e) pos) (fRet f) := by
  refine ps_imp (ps_ret h) fun D σ H q => ?_
  obtain ⟨P, ρ, FE, S, q⟩ := q
  refine ⟨P, ρ, FE, S, ?_⟩
  unfold fRet at q
  cases e : f ρ with
  | ok d ρ1 => simp only [e, RS.of] at q; exact fun v P' H' FE' F S' T t => q v σ P' H' FE' F S' T t Kp.refl
  | exc x ρ1 => simp only [e, RS.of] at q; exact fun cls dx P' H' FE' S' t r => q cls dx σ P' H' FE' S' t Kp.refl r
  | stk => simp only [e, RS.of] at q; exact q
theorem ds_drop {f : Ev → R D} {s : Stmt} (h : PS X s (tDrop (tE X.K RX W f))) : DS X RX W kp s (fDrop f) := by
  refine ps_imp h fun D σ H q => ?_
  obtain ⟨P, ρ, FE, S, q⟩ := q
  refine ⟨P, ρ, FE, S, ?_⟩
  unfold fDrop at q
  cases e : f ρ with
  | ok d ρ1 => simp only [e, RS.of] at q; exact fun v P' H' FE' F S' T t => q σ P' H' FE' S' t.less' Kp.refl
  | exc x ρ1 => simp only [e, RS.of] at q; exact fun cls dx P' H' FE' S' t r => q cls dx σ P' H' FE' S' t Kp.refl r
  | stk => simp only [e, RS.of] at q; exact q
theorem ds_if {c : Expr} {a b : List Stmt} {f : Ev → R Bool} {g k : Ev → RS} {pos : Pos} (hc : DT X RX W c f) (ha : DSs X RX W kp a g) (hb : DSs X RX W kp b k) : DS X RX W kp (.If c a b pos) (fIf f g k) := by
  refine ps_imp (ps_if hc ha hb) fun D σ H q => ?_
  obtain ⟨P, ρ, FE, S, q⟩ := q
  refine ⟨P, ρ, FE, S, ?_⟩
  unfold fIf at q
  cases e : f ρ with
  | ok d ρ1 =>
    simp only [e, RS.of] at q
    intro P1 H1 FE1 S1 t1
    cases d with
    | true => exact ⟨P1, ρ1, FE1, S1, PoS.later q t1 Kp.refl⟩
    | false => exact ⟨P1, ρ1, FE1, S1, PoS.later q t1 Kp.refl⟩
  | exc x ρ1 => simp only [e, RS.of] at q; exact fun cls dx P' H' FE' S' t r => q cls dx σ P' H' FE' S' t Kp.refl r
  | stk => simp only [e, RS.of] at q; exact q
def tG (K : PySem.W.Frag) (kp : List Nat) (t : D → Ev → Option Ev) : TG := fun v σ H Q => ∃ P ρ FE d F, Stt K P H ρ σ FE ∧ Tmp K P H FE d v F ∧ match t d ρ with
  | some ρ' => ∀ σ' P' H' FE', Stt K P' H' ρ' σ' FE' → Tr P H (fun b => U FE b ∨ F b) P' H' (U FE') → Kp kp σ σ' → Q σ' H'
  | none => False
def tGs (K : PySem.W.Frag) (kp : List Nat) (t : List D → Ev → Option Ev) : TGs := fun vs σ H Q => ∃ P ρ FE ds F, Stt K P H ρ σ FE ∧ Tmps K P H FE ds vs F ∧ match t ds ρ with
  | some ρ' => ∀ σ' P' H' FE', Stt K P' H' ρ' σ' FE' → Tr P H (fun b => U FE b ∨ F b) P' H' (U FE') → Kp kp σ σ' → Q σ' H'
  | none => False
abbrev DG (X : Cx) (kp : List Nat) (e : Expr) (t : D → Ev → Option Ev) : Prop := PG X e (tG X.K kp t)
abbrev DGs (X : Cx) (kp : List Nat) (es : List Expr) (t : List D → Ev → Option Ev) : Prop := PGs X es (tGs X.K kp t)
theorem pg_imp {e : Expr} {t t' : TG} (h : PG X e t) (w : ∀ v σ H Q, t' v σ H Q → t v σ H Q) : PG X e t' := ⟨fun pins s σ H v u Q I r q => h.run pins s σ H v u Q I r (w _ _ _ _ q)⟩
theorem pgs_imp {e : List Expr} {t t' : TGs} (h : PGs X e t) (w : ∀ v σ H Q, t' v σ H Q → t v σ H Q) : PGs X e t' := ⟨fun pins s σ H v u Q I r q => h.run pins s σ H v u Q I r (w _ _ _ _ q)⟩
def gN (i : Nat) : D → Ev → Option Ev := fun d ρ => some (ρ.set i (some d))
def gsN : List D → Ev → Option Ev := fun ds ρ => match ds with
  | [] => some ρ
  | _ :: _ => none
def gsC (t : D → Ev → Option Ev) (u : List D → Ev → Option Ev) : List D → Ev → Option Ev := fun ds ρ => match ds with
  | [] => none
  | d :: ds => match t d ρ with
    | some ρ' => u ds ρ'
    | none => none
def gT (n : Nat) (u : List D → Ev → Option Ev) : D → Ev → Option Ev := fun d ρ => match d with
  | .tup ds => if ds.length = n then u ds ρ else none
  | _ => none
theorem dg_name {i : Nat} {e : Expr} (h : PG X e (gName i)) (hk : i ∉ kp) : DG X kp e (gN i) := by
  refine pg_imp h fun v σ H Q q => ?_
  obtain ⟨P, ρ, FE, d, F, S, T, q⟩ := q
  exact q (σ.set i (some v)) P H _ (S.set T i) (Tr.refl.less fun b z => Stt.set_sub i b z) (Kp.set hk)
theorem dgs_nil : DGs X kp [] gsN := by
  refine pgs_imp pgs_nil fun vs σ H Q q => ?_
  obtain ⟨P, ρ, FE, ds, F, S, T, q⟩ := q
  cases ds with
  | nil =>
    cases T.rl
    exact ⟨rfl, q σ P H FE S (Tr.refl.less fun b z => .inl z) Kp.refl⟩
  | cons d ds => exact q.elim
theorem dgs_cons {e : Expr} {es : List Expr} {t : D → Ev → Option Ev} {u : List D → Ev → Option Ev} (h : DG X kp e t) (k : DGs X kp es u) (hs : (assignEach (e :: es) X.env).map (·.2) = assign e X.env :: (assignEach es X.env).map (·.2) := by rfl) : DGs X kp (e :: es) (gsC t u) := by
  refine pgs_imp (pgs_cons h k hs) fun vs σ H Q q => ?_
  obtain ⟨P, ρ, FE, ds, F, S, T, q⟩ := q
  cases ds with
  | nil => exact q.elim
  | cons d ds =>
    obtain ⟨rl, own⟩ := T
    cases rl with
    | @cons _ v _ vs _ F1 F2 r rs s1 s2 dj =>
      refine ⟨v, vs, rfl, ?_⟩
      have T1 : Tmp X.K P H FE d v F1 := ⟨r, fun b z => own b (s1 b z)⟩
      have T2 : Tmps X.K P H FE ds vs F2 := ⟨rs, fun b z => own b (s2 b z)⟩
      refine ⟨P, ρ, FE, d, F1, S, T1, ?_⟩
      simp only [gsC] at q
      cases e1 : t d ρ with
      | none => simp only [e1] at q
      | some ρ1 =>
        simp only [e1] at q
        intro σ1 P1 H1 FE1 S1 t1 k1
        have T2' : Tmps X.K P1 H1 FE1 ds vs F2 := by
          refine ⟨rls_mono rs t1.mono (fun b o e z => t1.frame b o e fun w => ?_) fun _ z => z, fun b z => ?_⟩
          · rcases z rfl with z | z
            · exact w.elim (fun ⟨i, w⟩ => (S.fin i b w).2 z) fun w => (T1.own b w).2.1 z
            · exact w.elim (T2.own b z).2.2 fun w => dj b w z
          · obtain ⟨h1, h2, h3⟩ := T2.own b z
            exact ⟨t1.alive b h1, fun w => (t1.back b w).elim h2 (fun w => w.elim (fun w => w.elim h3 fun w => dj b w z) h1), fun w => (t1.sub b w).elim (fun w => w.elim h3 fun w => dj b w z) h1⟩
        refine ⟨P1, ρ1, FE1, ds, F2, S1, T2', ?_⟩
        cases e2 : u ds ρ1 with
        | none => simp only [e2] at q
        | some ρ2 =>
          simp only [e2] at q
          intro σ2 P2 H2 FE2 S2 t2 k2
          refine q σ2 P2 H2 FE2 S2 ⟨fun b o e n nt => t2.frame b o (t1.frame b o e (fun w => n (w.imp id (s1 b))) nt) (fun w => ?_) nt, fun b z => t2.mono b (t1.mono b z), fun b z => ?_, fun b z => ?_, fun b z => t2.alive b (t1.alive b z)⟩ (k1.trans k2)
          · rcases w with w | w
            · rcases t1.sub b w with w | w
              · exact n (w.imp id (s1 b))
              · rw [e] at w; cases w
            · exact n (.inr (s2 b w))
          · rcases t2.back b z with z | z | z
            · exact (t1.back b z).imp id fun w => w.imp (fun w => w.imp id (s1 b)) id
            · rcases z with z | z
              · exact .inr ((t1.sub b z).imp (fun w => w.imp id (s1 b)) id)
              · exact .inr (.inl (.inr (s2 b z)))
            · refine .inr (.inr ?_)
              cases e : H b with
              | none => rfl
              | some o => exact absurd z (t1.alive b (by rw [e]; simp))
          · rcases t2.sub b z with z | z
            · rcases z with z | z
              · exact (t1.sub b z).imp (fun w => w.imp id (s1 b)) id
              · exact .inl (.inr (s2 b z))
            · refine .inr ?_
              cases e : H b with
              | none => rfl
              | some o => exact absurd z (t1.alive b (by rw [e]; simp))
theorem dg_tup {es : List Expr} {n k : Nat} {pos : Pos} {u : List D → Ev → Option Ev} (hc : X.calm = true) (h : DGs X kp es u) (hn : (assignEach es X.env).length = n := by rfl) (hst : (assignEach es X.env).findIdx? (·.1) = none := by rfl) :
    DG X kp (.Tuple es k pos) (gT n u) := by
  refine pg_imp (pg_tup hc h hn hst) fun v σ H Q q => ?_
  obtain ⟨P, ρ, FE, d, F, S, T, q⟩ := q
  cases d with
  | tup ds =>
    obtain ⟨rl, own⟩ := T
    cases rl with
    | tup e p rs =>
      simp only [gT] at q
      by_cases hl : ds.length = n
      · simp only [if_pos hl] at q
        exact ⟨_, _, rfl, .inl (.inl e), by rw [← rls_len rs]; exact hl, P, ρ, FE, ds, F, S, ⟨rs, own⟩, q⟩
      · simp only [if_neg hl] at q
  | _ => exact q.elim
/-- target = value -/
theorem ds_asg {s : Stmt} {f : Ev → R D} {t : D → Ev → Option Ev} (h : PS X s (tAsg (tE X.K RX W f) (tG X.K kp t))) : DS X RX W kp s (fAsg f t) := by
  refine ps_imp h fun D σ H q => ?_
  obtain ⟨P, ρ, FE, S, q⟩ := q
  refine ⟨P, ρ, FE, S, ?_⟩
  unfold fAsg at q
  cases e : f ρ with
  | ok d ρ1 =>
    simp only [e, RS.of] at q
    intro v P1 H1 FE1 F1 S1 T1 t1
    refine ⟨P1, ρ1, FE1, d, F1, S1, T1, ?_⟩
    cases e1 : t d ρ1 with
    | none => simp only [e1] at q; exact q
    | some ρ2 =>
      simp only [e1] at q
      exact fun σ2 P2 H2 FE2 S2 t2 k2 => q σ2 P2 H2 FE2 S2 (t1.trans t2) k2
  | exc x ρ1 => simp only [e, RS.of] at q; exact fun cls dx P' H' FE' S' t r => q cls dx σ P' H' FE' S' t Kp.refl r
  | stk => simp only [e, RS.of] at q; exact q
/-- name = value, from the layer's own rules (ps_set, ps_setLc) -/
theorem ds_set {s : Stmt} {i : Nat} {f : Ev → R D} (h : PS X s (tAsg (tE X.K RX W f) (gName i))) (hk : i ∉ kp) : DS X RX W kp s (fAsg f (gN i)) := by
  refine ps_imp h fun D σ H q => ?_
  obtain ⟨P, ρ, FE, S, q⟩ := q
  refine ⟨P, ρ, FE, S, ?_⟩
  unfold fAsg at q
  cases e : f ρ with
  | ok d ρ1 =>
    simp only [e, RS.of, gN] at q
    intro v P1 H1 FE1 F1 S1 T1 t1
    exact q (σ.set i (some v)) P1 H1 _ (S1.set T1 i) (t1.less fun b z => Stt.set_sub i b z) (Kp.set hk)
  | exc x ρ1 => simp only [e, RS.of] at q; exact fun cls dx P' H' FE' S' t r => q cls dx σ P' H' FE' S' t Kp.refl r
  | stk => simp only [e, RS.of] at q; exact q
end
end Hap
namespace Hap
open PySem PySem.Spec PyProof.Rows L2
variable [TabC]
/-- from any later state the walk J yields the data ds, one by one -/
structure Walks (K : PySem.W.Frag) (J : It) (P0 : AS) (H0 : Hp) (ds : List D) : Prop where
  go : ∀ (P : AS) (H : Hp) (i : Nat) (d : D), TAB P H → (∀ b, P0 b → P b) → (∀ b o, P0 b → H0 b = some o → NT o → H b = some o) → ds[i]? = some d →
    J.go i H ∧ ∀ x H3, J.yld i H x H3 → ∃ P3, New P H P3 H3 E_ ∧ Rl true K P3 H3 d x E_
  stop : ∀ (H : Hp), (∀ b o, P0 b → H0 b = some o → NT o → H b = some o) → J.stop ds.length H
def tI (K : PySem.W.Frag) (RX : RXR) (W : WX) (f : Ev → R (List D)) : TI := fun σ H Q => ∃ P ρ FE, Stt K P H ρ σ FE ∧ match f ρ with
  | .ok ds ρ' => ∀ J P' H' FE', Stt K P' H' ρ' σ FE' → Tr P H (U FE) P' H' (U FE') → Walks K J P' H' ds → Q J H'
  | .exc x ρ' => ∀ cls dx P' H' FE', Stt K P' H' ρ' σ FE' → Tr P H (U FE) P' H' (U FE') → RX x P' H' cls dx → W cls dx σ H'
  | .stk => False
abbrev DI (X : Cx) (RX : RXR) (W : WX) (tg e : Expr) (f : Ev → R (List D)) : Prop := PI X tg e (tI X.K RX W f)
theorem pi_imp {X : Cx} {tg e : Expr} {t t' : TI} (h : PI X tg e t) (w : ∀ σ H Q, t' σ H Q → t σ H Q) : PI X tg e t' := ⟨fun pins s σ H Q I q => h.run pins s σ H Q I (w _ _ _ q)⟩
/-- the items of a list, a tuple -/
def itemsL (d : D) : Option (List D) := match d with
  | .lst _ ds => some (frzs ds)
  | .rol ds => some ds
  | _ => none
def itemsT (d : D) : Option (List D) := match d with
  | .tup ds => some (frzs ds)
  | _ => none
def enumD : Nat → List D → List D
  | _, [] => []
  | i, d :: ds => .tup [.int (i : Int), d] :: enumD (i + 1) ds
def rangeD (lo : Int) : Nat → List D
  | 0 => []
  | n + 1 => .int lo :: rangeD (lo + 1) n
def zipD : List D → List D → List D
  | x :: xs, y :: ys => .tup [x, y] :: zipD xs ys
  | _, _ => []
def fIt (g : D → Option (List D)) (f : Ev → R D) : Ev → R (List D) := fun ρ => (f ρ).bind fun d ρ' => R.of (g d) ρ'
def fItN (g : List D → Option (List D)) (f : Ev → R (List D)) : Ev → R (List D) := fun ρ => (f ρ).bind fun d ρ' => R.of (g d) ρ'
theorem enumD_get : ∀ {k i : Nat} {ds : List D} {d : D}, (enumD k ds)[i]? = some d → ∃ e, ds[i]? = some e ∧ d = .tup [.int ((k + i : Nat) : Int), e]
  | k, 0, e :: ds, d, h => by
    simp only [enumD, List.getElem?_cons_zero] at h
    cases h
    exact ⟨e, rfl, by simp⟩
  | k, i + 1, e :: ds, d, h => by
    simp only [enumD, List.getElem?_cons_succ] at h
    obtain ⟨e', h1, h2⟩ := enumD_get h
    refine ⟨e', by simpa using h1, ?_⟩
    rw [h2]
    congr 3
    omega
  | _, _, [], _, h => by simp [enumD] at h
theorem enumD_len : ∀ (k : Nat) (ds : List D), (enumD k ds).length = ds.length
  | _, [] => rfl
  | k, _ :: ds => congrArg (· + 1) (enumD_len (k + 1) ds)
theorem rangeD_get : ∀ {lo : Int} {n i : Nat} {d : D}, (rangeD lo n)[i]? = some d → i < n ∧ d = .int (lo + (i : Int))
  | lo, 0, i, d, h => by simp [rangeD] at h
  | lo, n + 1, 0, d, h => by
    simp only [rangeD, List.getElem?_cons_zero] at h
    cases h
    exact ⟨Nat.succ_pos _, by simp⟩
  | lo, n + 1, i + 1, d, h => by
    simp only [rangeD, List.getElem?_cons_succ] at h
    obtain ⟨h1, h2⟩ := rangeD_get h
    refine ⟨by omega, ?_⟩
    rw [h2]
    congr 1
    omega
theorem rangeD_len : ∀ (lo : Int) (n : Nat), (rangeD lo n).length = n
  | _, 0 => rfl
  | lo, n + 1 => congrArg (· + 1) (rangeD_len (lo + 1) n)
theorem zipD_get : ∀ {xs ys : List D} {i : Nat} {d : D}, (zipD xs ys)[i]? = some d → ∃ x y, xs[i]? = some x ∧ ys[i]? = some y ∧ d = .tup [x, y]
  | x :: xs, y :: ys, 0, d, h => by
    simp only [zipD, List.getElem?_cons_zero] at h
    cases h
    exact ⟨x, y, rfl, rfl, rfl⟩
  | x :: xs, y :: ys, i + 1, d, h => by
    simp only [zipD, List.getElem?_cons_succ] at h
    obtain ⟨a, b, h1, h2, h3⟩ := zipD_get h
    exact ⟨a, b, by simpa using h1, by simpa using h2, h3⟩
  | [], _, _, _, h => by simp [zipD] at h
  | _ :: _, [], _, _, h => by simp [zipD] at h
theorem zipD_len : ∀ (xs ys : List D), (zipD xs ys).length = min xs.length ys.length
  | [], ys => by simp [zipD]
  | _ :: _, [] => by simp [zipD]
  | _ :: xs, _ :: ys => by simp [zipD, zipD_len xs ys, Nat.succ_min_succ]
theorem New.pair {K : PySem.W.Frag} {P : AS} {H : Hp} {T : Addr} {x y : V} {d e : D} (hT : H T = none) (r1 : Rl true K P H d x E_) (r2 : Rl true K P H e y E_) :
    ∃ P3, New P H P3 (upd H T (.tup [x, y])) E_ ∧ Rl true K P3 (upd H T (.tup [x, y])) (.tup [d, e]) (.ref T) E_ := by
  refine ⟨fun b => P b ∨ b = T, New.tup hT, .tup upd_same (.inr rfl) ?_⟩
  have m : ∀ {d : D} {x : V}, Rl true K P H d x E_ → Rl true K (fun b => P b ∨ b = T) (upd H T (.tup [x, y])) d x E_ := fun r => rl_mono r (fun b z => .inl z) (fun b o e _ _ => by rw [upd_ne (ne_of_none e hT)]; exact e) fun _ z => z
  have m' : ∀ {d : D} {z : V}, Rl true K P H d z E_ → Rl true K (fun b => P b ∨ b = T) (upd H T (.tup [x, y])) d z E_ := fun r => rl_mono r (fun b z => .inl z) (fun b o e _ _ => by rw [upd_ne (ne_of_none e hT)]; exact e) fun _ z => z
  exact .cons (F1 := E_) (F2 := E_) (m' r1) (.cons (F1 := E_) (F2 := E_) (m' r2) .nil (fun _ z => z) (fun _ z => z) fun _ z => z.elim) (fun _ z => z) (fun _ z => z) fun _ z => z.elim
section
variable {K : PySem.W.Frag} {P0 : AS} {H0 : Hp} {ds : List D}
theorem rol_sql {K : PySem.W.Frag} {P : AS} {H : Hp} {p : Addr} {vs : List V} (h : Rol K H P p vs) : SqL K H p vs := by
  rcases h with ⟨_, e | ⟨o, e⟩⟩ | h
  · exact .inl (.inl e)
  · exact .inl (.inr ⟨o, e⟩)
  · exact .inr h
/-- a list given up (or one that is only read) -/
def ImL (K : PySem.W.Frag) (P : AS) (H : Hp) (p : Addr) (ds : List D) : Prop := ∃ vs, ((H p = some (.lst vs) ∧ P p) ∨ Rol K H P p vs) ∧ Rls true K P H ds vs E_
theorem ImL.mono {P P' : AS} {H H' : Hp} {p : Addr} (h : ImL K P H p ds) (hP : ∀ b, P b → P' b) (hH : ∀ b o, P b → H b = some o → NT o → H' b = some o) : ∃ vs, (SqL K H' p vs) ∧ Rls true K P' H' ds vs E_ := by
  obtain ⟨vs, h, r⟩ := h
  refine ⟨vs, ?_, rls_mono r hP (fun b o e q => hH b o ((q rfl).elim id False.elim) e) fun _ z => z⟩
  rcases h with ⟨e, p⟩ | h
  · exact .inl (.inl (hH _ _ p e nt_lst))
  · exact rol_sql (Rol.mono (z := true) (F := E_) h hP fun b o e q => hH b o ((q rfl).elim id False.elim) e)
theorem walks_list {p : Addr} (h : ImL K P0 H0 p ds) : Walks K (Itl K p) P0 H0 ds where
  go := fun P H i d _ hP hH hd => by
    obtain ⟨vs, s, r⟩ := h.mono hP hH
    obtain ⟨v, e, r1⟩ := rls_get r hd
    exact ⟨⟨vs, v, s, e⟩, fun x H3 y => by
      obtain ⟨e1, y⟩ := y
      subst e1
      have := y vs s
      rw [e] at this; cases this
      exact ⟨P, New.refl, r1⟩⟩
  stop := fun H hH => by
    obtain ⟨vs, s, r⟩ := h.mono (P' := P0) (fun _ q => q) hH
    exact ⟨vs, s, Nat.le_of_eq (rls_len r).symm⟩
theorem walks_enum {p : Addr} (h : ImL K P0 H0 p ds) : Walks K (Ite K p) P0 H0 (enumD 0 ds) where
  go := fun P H i d _ hP hH hd => by
    obtain ⟨vs, s, r⟩ := h.mono hP hH
    obtain ⟨e, h1, h2⟩ := enumD_get hd
    obtain ⟨v, e1, r1⟩ := rls_get r h1
    refine ⟨⟨vs, v, s, e1⟩, fun x H3 y => ?_⟩
    obtain ⟨T, x1, rfl, hT, rfl, y⟩ := y
    have := y vs s
    rw [e1] at this; cases this
    rw [h2, Nat.zero_add]
    exact New.pair hT .int r1
  stop := fun H hH => by
    obtain ⟨vs, s, r⟩ := h.mono (P' := P0) (fun _ q => q) hH
    exact ⟨vs, s, by rw [enumD_len, rls_len r]; exact Nat.le_refl _⟩
theorem walks_zip {p q : Addr} {es : List D} (h : ImL K P0 H0 p ds) (k : ImL K P0 H0 q es) : Walks K (Itz K p q) P0 H0 (zipD ds es) where
  go := fun P H i d _ hP hH hd => by
    obtain ⟨vs, s, r⟩ := h.mono hP hH
    obtain ⟨ws, s', r'⟩ := k.mono hP hH
    obtain ⟨a, b, h1, h2, h3⟩ := zipD_get hd
    obtain ⟨v, e1, r1⟩ := rls_get r h1
    obtain ⟨w, e2, r2⟩ := rls_get r' h2
    refine ⟨⟨vs, ws, v, w, s, s', e1, e2⟩, fun x H3 y => ?_⟩
    obtain ⟨T, x1, x2, rfl, hT, rfl, y1, y2⟩ := y
    have z1 := y1 vs s
    have z2 := y2 ws s'
    rw [e1] at z1; cases z1
    rw [e2] at z2; cases z2
    rw [h3]
    exact New.pair hT r1 r2
  stop := fun H hH => by
    obtain ⟨vs, s, r⟩ := h.mono (P' := P0) (fun _ q => q) hH
    obtain ⟨ws, s', r'⟩ := k.mono (P' := P0) (fun _ q => q) hH
    refine ⟨vs, ws, s, s', ?_⟩
    rw [zipD_len, ← rls_len r, ← rls_len r']
    omega
theorem walks_tup {p : Addr} (h : ∃ vs, H0 p = some (.tup vs) ∧ P0 p ∧ Rls true K P0 H0 ds vs E_) : Walks K (Itt K p) P0 H0 ds where
  go := fun P H i d _ hP hH hd => by
    obtain ⟨vs, e, p, r⟩ := h
    obtain ⟨v, e1, r1⟩ := rls_get (rls_mono r hP (fun b o e q => hH b o ((q rfl).elim id False.elim) e) fun _ z => z) hd
    have s : SqT K H _ vs := .inl (.inl (hH _ _ p e nt_tup))
    exact ⟨⟨vs, v, s, e1⟩, fun x H3 y => by
      obtain ⟨e2, y⟩ := y
      subst e2
      have := y vs s
      rw [e1] at this; cases this
      exact ⟨P, New.refl, r1⟩⟩
  stop := fun H hH => by
    obtain ⟨vs, e, p, r⟩ := h
    exact ⟨vs, .inl (.inl (hH _ _ p e nt_tup)), Nat.le_of_eq (rls_len r).symm⟩
theorem walks_range {lo : Int} {n : Nat} : Walks K (Itr lo n) P0 H0 (rangeD lo n) where
  go := fun P H i d _ hP hH hd => by
    obtain ⟨h1, h2⟩ := rangeD_get hd
    refine ⟨h1, fun x H3 y => ?_⟩
    obtain ⟨rfl, rfl⟩ := y
    exact ⟨P, New.refl, h2 ▸ .int⟩
  stop := fun H hH => by show n ≤ _; rw [rangeD_len]; exact Nat.le_refl _
end
section
variable {X : Cx} {RX : RXR} {W : WX} {tg e : Expr}
/-- a datum whose items are taken: all of it is given up -/
theorem itemsL_im {K : PySem.W.Frag} {P : AS} {H : Hp} {FE : FP} {d : D} {v : V} {F : AS} {ds : List D} (T : Tmp K P H FE d v F) (h : itemsL d = some ds) : ∃ p, v = .ref p ∧ (∃ vs, SqL K H p vs) ∧ ImL K (fun b => P b ∨ F b) H p ds := by
  obtain ⟨r, _⟩ := T
  cases r with
  | lstO e f s rs =>
    cases h
    exact ⟨_, rfl, ⟨_, .inl (.inl e)⟩, _, .inl ⟨e, .inr (f rfl)⟩, rls_frz rs (fun b z => .inl z) fun b z => .inr (s b z).1⟩
  | lstI e p i rs =>
    cases h
    exact ⟨_, rfl, ⟨_, .inl (.inl e)⟩, _, .inl ⟨e, .inl p⟩, rls_frz rs (fun b z => .inl z) fun b z => z.elim⟩
  | rol e i rs =>
    cases h
    exact ⟨_, rfl, ⟨_, rol_sql e⟩, _, .inr (Rol.mono (z := true) (F := E_) e (fun b z => .inl z) fun b o e _ _ => e), rls_mono rs (fun b z => .inl z) (fun b o e _ _ => e) fun _ z => z⟩
  | _ => cases h
theorem di_list {f : Ev → R D} (h : DE X RX W e f) : DI X RX W tg e (fIt itemsL f) := by
  refine pi_imp (pi_list h) fun σ H Q q => ?_
  obtain ⟨P, ρ, FE, S, q⟩ := q
  refine ⟨P, ρ, FE, S, ?_⟩
  unfold fIt at q
  cases e : f ρ with
  | ok d ρ1 =>
    simp only [e, R.bind] at q
    intro v P1 H1 FE1 F1 S1 T1 t1
    cases e2 : itemsL d with
    | none => simp only [e2, R.of] at q
    | some ds =>
      simp only [e2, R.of] at q
      obtain ⟨p, ev, hs, im⟩ := itemsL_im T1 e2
      exact ⟨p, ev, hs, q _ _ H1 FE1 (S1.give fun b z => ⟨(T1.own b z).1, (T1.own b z).2.2⟩) t1.give (walks_list im)⟩
  | exc x ρ1 => simp only [e, R.bind] at q; exact q
  | stk => simp only [e, R.bind] at q
def rng1 (ds : List D) : Option (List D) := match ds with
  | [.int j] => if -(2 ^ 62) ≤ j ∧ j < 2 ^ 62 then some (rangeD 0 j.toNat) else none
  | _ => none
/-- what an argument list's items give -/
theorem a_it {K : PySem.W.Frag} {f : Ev → R (List D)} {g : List D → Option (List D)} {σ : L2.St} {H : Hp} {Q : It → Hp → Prop} (q : tI K RX W (fItN g f) σ H Q) {C : List V → Hp → Prop}
    (w : ∀ (P : AS) (H1 : Hp) (ρ : Ev) (FE : FP) vs ds F ds', Stt K P H1 ρ σ FE → Tmps K P H1 FE ds vs F → g ds = some ds' → (∀ J, Walks K J (fun b => P b ∨ F b) H1 ds' → Q J H1) → C vs H1) : tA K RX W f σ H C := by
  obtain ⟨P, ρ, FE, S, q⟩ := q
  refine ⟨P, ρ, FE, S, ?_⟩
  unfold fItN at q
  cases e : f ρ with
  | ok d ρ1 =>
    simp only [e, R.bind] at q
    intro v P1 H1 FE1 F1 S1 T1 t1
    cases e2 : g d with
    | none => simp only [e2, R.of] at q
    | some ds =>
      simp only [e2, R.of] at q
      exact w P1 H1 ρ1 FE1 v d F1 ds S1 T1 e2 fun J k => q J _ H1 FE1 (S1.give fun b z => ⟨(T1.own b z).1, (T1.own b z).2.2⟩) t1.give k
  | exc x ρ1 => simp only [e, R.bind] at q; exact q
  | stk => simp only [e, R.bind] at q
theorem rls1 {z : Bool} {K : PySem.W.Frag} {P : AS} {H : Hp} {d : D} {vs : List V} {F : AS} (h : Rls z K P H [d] vs F) : ∃ v, vs = [v] ∧ Rl z K P H d v F := by
  cases h with
  | cons r rs s1 s2 dj => cases rs; exact ⟨_, rfl, rl_mono r (fun _ q => q) (fun _ _ e _ _ => e) s1⟩
theorem rls2 {z : Bool} {K : PySem.W.Frag} {P : AS} {H : Hp} {d e : D} {vs : List V} {F : AS} (h : Rls z K P H [d, e] vs F) : ∃ v w F1 F2, vs = [v, w] ∧ Rl z K P H d v F1 ∧ Rl z K P H e w F2 ∧ (∀ b, F1 b → F b) ∧ (∀ b, F2 b → F b) ∧ (∀ b, F1 b → F2 b → False) := by
  cases h with
  | cons r rs s1 s2 dj =>
    cases rs with
    | cons r' rs' s1' s2' dj' => cases rs'; exact ⟨_, _, _, _, rfl, r, r', s1, fun b z => s2 b (s1' b z), fun b z w => dj b z (s1' b w)⟩
theorem rl_int {z : Bool} {K : PySem.W.Frag} {P : AS} {H : Hp} {i : Int} {v : V} {F : AS} (h : Rl z K P H (.int i) v F) : v = .int i := by cases h; rfl
theorem rl_bl {z : Bool} {K : PySem.W.Frag} {P : AS} {H : Hp} {i : Bool} {v : V} {F : AS} (h : Rl z K P H (.bl i) v F) : v = .bl i := by cases h; rfl
theorem rl_str {z : Bool} {K : PySem.W.Frag} {P : AS} {H : Hp} {i : Str} {v : V} {F : AS} (h : Rl z K P H (.str i) v F) : v = .str i := by cases h; rfl
theorem rl_non {z : Bool} {K : PySem.W.Frag} {P : AS} {H : Hp} {v : V} {F : AS} (h : Rl z K P H .non v F) : v = .non := by cases h; rfl
theorem rng1_ok {ds ds' : List D} (h : rng1 ds = some ds') : ∃ j, ds = [.int j] ∧ -(2 ^ 62) ≤ j ∧ j < 2 ^ 62 ∧ ds' = rangeD 0 j.toNat := by
  unfold rng1 at h
  split at h
  · rename_i j
    split at h
    · rename_i c
      cases h
      exact ⟨j, rfl, c.1, c.2, rfl⟩
    · cases h
  · cases h
theorem di_range1 {a : Expr} {f : Ev → R (List D)} {p pos : Pos} (hg : Gl X "range") (hm : X.mg "range" = none) (ha : DA X RX W [a] f) (hs : starEach [a] X.env = [(false, eval a X.env)] := by rfl) : DI X RX W tg (.Call (.Name "range" p) [a] [] pos) (fItN rng1 f) := by
  refine pi_imp (pi_range1 hg hm ha hs) fun σ H Q q => a_it q fun P H1 ρ FE vs ds F ds' S T g k => ?_
  obtain ⟨j, rfl, h1, h2, rfl⟩ := rng1_ok g
  obtain ⟨v, rfl, r⟩ := rls1 T.rl
  rw [rl_int r]
  exact ⟨j, rfl, h1, h2, k _ walks_range⟩
def enumL (ds : List D) : Option (List D) := match ds with
  | [d] => (itemsL d).map (enumD 0)
  | _ => none
def zipL (ds : List D) : Option (List D) := match ds with
  | [d, e] => (itemsL d).bind fun xs => (itemsL e).map (zipD xs)
  | _ => none
theorem di_enum {a : Expr} {f : Ev → R (List D)} {p pos tpos : Pos} {elts : List Expr} {kk : Nat} (hg : Gl X "enumerate") (hm : X.mg "enumerate" = none) (ha : DA X RX W [a] f) (hs : starEach [a] X.env = [(false, eval a X.env)] := by rfl) :
    DI X RX W (.Tuple elts kk tpos) (.Call (.Name "enumerate" p) [a] [] pos) (fItN enumL f) := by
  refine pi_imp (pi_enum hg hm ha hs) fun σ H Q q => a_it q fun P H1 ρ FE vs ds F ds' S T g k => ?_
  unfold enumL at g
  split at g
  · rename_i d
    cases e : itemsL d with
    | none => rw [e] at g; cases g
    | some xs =>
      rw [e] at g; cases g
      obtain ⟨v, rfl, r⟩ := rls1 T.rl
      obtain ⟨p, rfl, ⟨vs, s⟩, im⟩ := itemsL_im (Tmp.mk r T.own) e
      exact ⟨p, vs, rfl, s, k _ (walks_enum im)⟩
  · cases g
theorem di_zip {a b : Expr} {f : Ev → R (List D)} {p pos tpos : Pos} {elts : List Expr} {kk : Nat} (h : PI X (.Tuple elts kk tpos) (.Call (.Name "zip" p) [a, b] [] pos) (iZip X.K (tA X.K RX W f))) :
    DI X RX W (.Tuple elts kk tpos) (.Call (.Name "zip" p) [a, b] [] pos) (fItN zipL f) := by
  refine pi_imp h fun σ H Q q => a_it q fun P H1 ρ FE vs ds F ds' S T g k => ?_
  unfold zipL at g
  split at g
  · rename_i d e
    cases e1 : itemsL d with
    | none => rw [e1] at g; cases g
    | some xs =>
      cases e2 : itemsL e with
      | none => rw [e1, e2] at g; cases g
      | some ys =>
        rw [e1, e2] at g; cases g
        obtain ⟨v, w, F1, F2, rfl, r, r', s1, s2, dj⟩ := rls2 T.rl
        obtain ⟨p, rfl, ⟨vs, s⟩, im⟩ := itemsL_im (Tmp.mk r fun b z => T.own b (s1 b z)) e1
        obtain ⟨q, rfl, ⟨ws, s'⟩, im'⟩ := itemsL_im (Tmp.mk r' fun b z => T.own b (s2 b z)) e2
        have im1 : ImL X.K (fun b => P b ∨ F b) H1 p xs := by
          obtain ⟨vs, h, r⟩ := im
          exact ⟨vs, h.imp (fun h => ⟨h.1, h.2.imp id (s1 _)⟩) fun h => Rol.mono (z := true) (F := E_) h (fun b z => z.imp id (s1 b)) fun b o e _ _ => e, rls_mono r (fun b z => z.imp id (s1 b)) (fun b o e _ _ => e) fun _ z => z⟩
        have im2 : ImL X.K (fun b => P b ∨ F b) H1 q ys := by
          obtain ⟨vs, h, r⟩ := im'
          exact ⟨vs, h.imp (fun h => ⟨h.1, h.2.imp id (s2 _)⟩) fun h => Rol.mono (z := true) (F := E_) h (fun b z => z.imp id (s2 b)) fun b o e _ _ => e, rls_mono r (fun b z => z.imp id (s2 b)) (fun b o e _ _ => e) fun _ z => z⟩
        exact ⟨p, q, vs, ws, rfl, s, s', k _ (walks_zip im1 im2)⟩
  · cases g
def loopS (step : D → Ev → RS) : List D → Ev → RS
  | [], ρ => .nx ρ
  | d :: ds, ρ => match step d ρ with
    | .nx ρ' => loopS step ds ρ'
    | .ct ρ' => loopS step ds ρ'
    | .bk ρ' => .nx ρ'
    | .rt d ρ' => .rt d ρ'
    | .exc x ρ' => .exc x ρ'
    | .stk => .stk
def stepS (t : D → Ev → Option Ev) (g : Ev → RS) : D → Ev → RS := fun d ρ => match t d ρ with
  | some ρ' => g ρ'
  | none => .stk
def fFor (f : Ev → R (List D)) (t : D → Ev → Option Ev) (g : Ev → RS) : Ev → RS := fun ρ => RS.of (f ρ) (loopS (stepS t g))
theorem ds_for {kp : List Nat} {iter : Expr} {body : List Stmt} {f : Ev → R (List D)} {t : D → Ev → Option Ev} {g : Ev → RS} {pos : Pos} (hp : PassesOwn (model X.prog X.w) X.A X.env X.xe) (hc : X.calm = true)
    (hi : DI X RX W tg iter f) (hg : DG X kp tg t) (hb : DSs X RX W kp body g) (hs : ∀ x, foldedSetIterable iter X.env x = pure x := by intro _; rfl) : DS X RX W kp (.For tg iter body [] pos) (fFor f t g) := by
  refine ps_imp (ps_for hp hc hi hg hb hs) fun D σ H q => ?_
  obtain ⟨P, ρ, FE, S, q⟩ := q
  refine ⟨P, ρ, FE, S, ?_⟩
  unfold fFor at q
  cases e : f ρ with
  | exc x ρ1 => simp only [e, RS.of] at q; exact fun cls dx P' H' FE' S' t r => q cls dx σ P' H' FE' S' t Kp.refl r
  | stk => simp only [e, RS.of] at q; exact q
  | ok ds ρ1 =>
    simp only [e, RS.of] at q
    intro J P1 H1 FE1 S1 t1 wk
    have q1 := PoS.later q t1 Kp.refl
    refine ⟨fun i m σ2 H2 => m = ds.length - i ∧ i ≤ ds.length ∧ (∀ b o, P1 b → H1 b = some o → NT o → H2 b = some o) ∧ ∃ P2 ρ2 FE2, Stt X.K P2 H2 ρ2 σ2 FE2 ∧ (∀ b, P1 b → P2 b) ∧ PoS X.K RX W kp D P2 σ2 H2 FE2 (loopS (stepS t g) (ds.drop i) ρ2),
      ⟨ds.length, by simp, Nat.zero_le _, fun _ _ _ e _ => e, P1, ρ1, FE1, S1, fun _ z => z, by simpa using q1⟩, ?_⟩
    rintro i m σ2 H2 ⟨rfl, hi, kH, P2, ρ2, FE2, S2, kP, q2⟩
    by_cases hlt : i < ds.length
    · have hd : ds[i]? = some ds[i] := List.getElem?_eq_getElem hlt
      obtain ⟨go, yl⟩ := wk.go P2 H2 i ds[i] S2.tab kP kH hd
      have hdr : ds.drop i = ds[i] :: ds.drop (i + 1) := List.drop_eq_getElem_cons hlt
      rw [hdr] at q2
      refine .inr ⟨go, fun σ' H' => (∀ b o, P1 b → H1 b = some o → NT o → H' b = some o) ∧ ∃ P3 ρ3 FE3, Stt X.K P3 H' ρ3 σ' FE3 ∧ (∀ b, P1 b → P3 b) ∧ PoS X.K RX W kp D P3 σ' H' FE3 (loopS (stepS t g) (ds.drop (i + 1)) ρ3),
        fun σ' H' ⟨k1, z⟩ => ⟨ds.length - (i + 1), by omega, rfl, hlt, k1, z⟩, fun x H3 y => ?_⟩
      obtain ⟨P3, n3, r3⟩ := yl x H3 y
      have S3 := n3.stt S2
      have t3 : Tr P2 H2 (U FE2) P3 H3 (U FE2) := n3.tr.less'
      refine ⟨P3, ρ2, FE2, ds[i], E_, S3, ⟨r3, fun b z => z.elim⟩, ?_⟩
      simp only [loopS, stepS] at q2
      cases e1 : t ds[i] ρ2 with
      | none => simp only [e1] at q2; exact q2
      | some ρ3 =>
        simp only [e1] at q2
        intro σ4 P4 H4 FE4 S4 t4 k4
        have t4' : Tr P3 H3 (U FE2) P4 H4 (U FE4) := ⟨fun b o e n => t4.frame b o e fun z => z.elim n False.elim, t4.mono, fun b z => (t4.back b z).imp id fun z => z.imp (fun z => z.elim id False.elim) id, fun b z => (t4.sub b z).imp (fun z => z.elim id False.elim) id, t4.alive⟩
        have t24 := t3.trans t4'
        have kH4 : ∀ b o, P1 b → H1 b = some o → NT o → H4 b = some o := fun b o p e nt => t24.frame b o (kH b o p e nt) (fun ⟨j, z⟩ => (S2.fin j b z).2 (kP b p)) nt
        have kP4 : ∀ b, P1 b → P4 b := fun b z => t24.mono b (kP b z)
        refine ⟨P4, ρ3, FE4, S4, ?_⟩
        have nxt : ∀ {ρ5 : Ev} {σ5 : L2.St} {P5 : AS} {H5 : Hp} {FE5 : FP}, Stt X.K P5 H5 ρ5 σ5 FE5 → Tr P4 H4 (U FE4) P5 H5 (U FE5) → Kp kp σ4 σ5 → PoS X.K RX W kp D P2 σ2 H2 FE2 (loopS (stepS t g) (ds.drop (i + 1)) ρ5) →
            (∀ b o, P1 b → H1 b = some o → NT o → H5 b = some o) ∧ ∃ P3 ρ3 FE3, Stt X.K P3 H5 ρ3 σ5 FE3 ∧ (∀ b, P1 b → P3 b) ∧ PoS X.K RX W kp D P3 σ5 H5 FE3 (loopS (stepS t g) (ds.drop (i + 1)) ρ3) :=
          fun {ρ5 σ5 P5 H5 FE5} S5 t5 k5 q5 => ⟨fun b o p e nt => t5.frame b o (kH4 b o p e nt) (fun ⟨j, z⟩ => (S4.fin j b z).2 (kP4 b p)) nt, P5, ρ5, FE5, S5, fun b z => t5.mono b (kP4 b z), q5.later (t24.trans t5) (k4.trans k5)⟩
        cases e2 : g ρ3 with
        | nx ρ5 => simp only [e2] at q2; exact fun σ5 P5 H5 FE5 S5 t5 k5 => nxt S5 t5 k5 q2
        | ct ρ5 => simp only [e2] at q2; exact fun σ5 P5 H5 FE5 S5 t5 k5 => nxt S5 t5 k5 q2
        | bk ρ5 => simp only [e2] at q2; exact fun σ5 P5 H5 FE5 S5 t5 k5 => q2 σ5 P5 H5 FE5 S5 (t24.trans t5) (k4.trans k5)
        | rt d ρ5 => simp only [e2] at q2; exact fun v σ5 P5 H5 FE5 F5 S5 T5 t5 k5 => q2 v σ5 P5 H5 FE5 F5 S5 T5 (t24.trans t5) (k4.trans k5)
        | exc x ρ5 => simp only [e2] at q2; exact fun cls dx σ5 P5 H5 FE5 S5 t5 k5 r => q2 cls dx σ5 P5 H5 FE5 S5 (t24.trans t5) (k4.trans k5) r
        | stk => simp only [e2] at q2; exact q2
    · have e : i = ds.length := by omega
      subst e
      rw [List.drop_length] at q2
      exact .inl ⟨wk.stop H2 kH, q2 σ2 P2 H2 FE2 S2 Tr.refl Kp.refl⟩
end
end Hap
namespace Hap
open PySem PySem.Spec PyProof.Rows L2
variable [TabC]
def whileS (c : Ev → R Bool) (g : Ev → RS) : Nat → Ev → RS
  | 0, _ => .stk
  | n + 1, ρ => match c ρ with
    | .ok true ρ1 => (match g ρ1 with
      | .nx ρ2 => whileS c g n ρ2
      | .ct ρ2 => whileS c g n ρ2
      | .bk ρ2 => .nx ρ2
      | .rt d ρ2 => .rt d ρ2
      | .exc x ρ2 => .exc x ρ2
      | .stk => .stk)
    | .ok false ρ1 => .nx ρ1
    | .exc x ρ1 => .exc x ρ1
    | .stk => .stk
def fWhile (n : Nat) (c : Ev → R Bool) (g : Ev → RS) : Ev → RS := whileS c g n
def wipeE (ρ : Ev) : List Nat → Ev
  | [] => ρ
  | v :: vs => (wipeE ρ vs).set v none
/-- the slots of the block's own names as they were (nothing of one's own may stand there) -/
def backE (ρ0 ρ : Ev) : List Nat → Ev
  | [] => ρ
  | v :: vs => (backE ρ0 ρ vs).set v (match ρ0[v]? with | some o => o | none => none)
def immAt (ρ : Ev) (vs : List Nat) : Bool := vs.all fun v => match ρ[v]? with
  | some (some d) => isImm d
  | _ => true
/-- items one by one: the target, the tests, the element -/
def loopC (t : D → Ev → Option Ev) (c : Ev → R Bool) (f : Ev → R D) (vs : List Nat) : List D → List D → Ev → R (List D)
  | [], acc, ρ => .ok acc ρ
  | d :: ds, acc, ρ => match t d ρ with
    | none => .stk
    | some ρ1 => match c ρ1 with
      | .ok true ρ2 => (match f ρ2 with
        | .ok e ρ3 => loopC t c f vs ds (acc ++ [e]) (wipeE ρ3 vs)
        | _ => .stk)
      | .ok false ρ2 => loopC t c f vs ds acc (wipeE ρ2 vs)
      | _ => .stk
def fLc (i : Ev → R (List D)) (t : D → Ev → Option Ev) (c : Ev → R Bool) (f : Ev → R D) (vs : List Nat) : Ev → R D := fun ρ => (i ρ).bind fun ds ρ1 =>
  if immAt ρ1 vs = true ∧ ds.length ≤ sizeLine then
    match loopC t c f vs ds [] (wipeE ρ1 vs) with
    | .ok acc ρ2 => .ok (.lst true acc) (backE ρ1 ρ2 vs)
    | _ => .stk
  else .stk
section
variable {K : PySem.W.Frag} {P P' : AS} {H : Hp} {FE : FP} {ρ ρ1 : Ev} {σ : L2.St}
theorem rls_snoc {z : Bool} {d : D} {v : V} : ∀ {ds : List D} {vs : List V} {F1 F2 F : AS}, Rls z K P H ds vs F1 → Rl z K P H d v F2 → (∀ b, F1 b → F b) → (∀ b, F2 b → F b) → (∀ b, F1 b → F2 b → False) → Rls z K P H (ds ++ [d]) (vs ++ [v]) F
  | _, _, F1, F2, F, .nil, r, _, s2, _ => .cons (F1 := F2) (F2 := E_) r .nil s2 (fun _ q => q.elim) fun _ _ q => q
  | _, _, F1, F2, F, .cons (F1 := G1) (F2 := G2) r' rs t1 t2 dj', r, s1, s2, dj =>
    .cons (F1 := G1) (F2 := fun b => G2 b ∨ F2 b) r' (rls_snoc rs r (fun _ q => .inl q) (fun _ q => .inr q) fun b q w => dj b (t2 b q) w) (fun b q => s1 b (t1 b q)) (fun b q => q.elim (fun q => s1 b (t2 b q)) (s2 b)) fun b q w => w.elim (dj' b q) (dj b (t1 b q))
theorem wipeE_in {v : Nat} {d : D} : ∀ {vs : List Nat} {ρ : Ev}, (wipeE ρ vs)[v]? = some (some d) → v ∉ vs ∧ ρ[v]? = some (some d)
  | [], _, h => ⟨by simp, h⟩
  | u :: vs, ρ, h => by
    unfold wipeE at h
    by_cases e : u = v
    · subst e
      by_cases hl : u < (wipeE ρ vs).length
      · rw [List.getElem?_set_self hl] at h; cases h
      · rw [List.getElem?_eq_none (by simpa using hl)] at h; cases h
    · rw [List.getElem?_set_ne e] at h
      obtain ⟨h1, h2⟩ := wipeE_in h
      exact ⟨by simp only [List.mem_cons, not_or]; exact ⟨Ne.symm e, h1⟩, h2⟩
theorem wipeE_len : ∀ (vs : List Nat) (ρ : Ev), (wipeE ρ vs).length = ρ.length
  | [], _ => rfl
  | u :: vs, ρ => by unfold wipeE; rw [List.length_set, wipeE_len vs ρ]
theorem wipe_get {v : Nat} : ∀ {vs : List Nat} {σ : L2.St}, v ∉ vs → (wipe σ vs)[v]? = σ[v]?
  | [], _, _ => rfl
  | u :: vs, σ, h => by
    simp only [List.mem_cons, not_or] at h
    unfold wipe
    rw [List.getElem?_set_ne (Ne.symm h.1)]
    exact wipe_get h.2
theorem wipe_in {v : Nat} : ∀ {vs : List Nat} {σ : L2.St}, v ∈ vs → v < σ.length → (wipe σ vs)[v]? = some none
  | [], _, h, _ => by simp at h
  | u :: vs, σ, h, hl => by
    unfold wipe
    by_cases e : u = v
    · subst e
      rw [List.getElem?_set_self (by rw [wipe_length]; exact hl)]
    · rw [List.getElem?_set_ne e]
      exact wipe_in (by simpa [Ne.symm e] using h) hl
theorem wipe_eq {vs : List Nat} {σ σ' : L2.St} (hl : σ'.length = σ.length) (h : ∀ i, i ∉ vs → σ'[i]? = σ[i]?) : wipe σ' vs = wipe σ vs := by
  apply List.ext_getElem?
  intro i
  by_cases hi : i ∈ vs
  · by_cases hlt : i < σ.length
    · rw [wipe_in hi hlt, wipe_in hi (by omega)]
    · rw [List.getElem?_eq_none (by rw [wipe_length]; omega), List.getElem?_eq_none (by rw [wipe_length]; omega)]
  · rw [wipe_get hi, wipe_get hi, h i hi]
theorem backE_len : ∀ (vs : List Nat) (ρ0 ρ : Ev), (backE ρ0 ρ vs).length = ρ.length
  | [], _, _ => rfl
  | u :: vs, ρ0, ρ => by unfold backE; rw [List.length_set, backE_len vs ρ0 ρ]
theorem backE_get {v : Nat} : ∀ {vs : List Nat} {ρ0 ρ : Ev}, v ∉ vs → (backE ρ0 ρ vs)[v]? = ρ[v]?
  | [], _, _, _ => rfl
  | u :: vs, ρ0, ρ, h => by
    simp only [List.mem_cons, not_or] at h
    unfold backE
    rw [List.getElem?_set_ne (Ne.symm h.1)]
    exact backE_get h.2
theorem backE_in {v : Nat} {d : D} : ∀ {vs : List Nat} {ρ0 ρ : Ev}, v ∈ vs → (backE ρ0 ρ vs)[v]? = some (some d) → ρ0[v]? = some (some d)
  | [], _, _, h, _ => by simp at h
  | u :: vs, ρ0, ρ, h, e => by
    unfold backE at e
    by_cases hu : u = v
    · subst hu
      by_cases hl : u < (backE ρ0 ρ vs).length
      · rw [List.getElem?_set_self hl] at e
        split at e
        · rename_i o eo
          cases e
          exact eo
        · cases e
      · rw [List.getElem?_eq_none (by simpa using hl)] at e; cases e
    · rw [List.getElem?_set_ne hu] at e
      exact backE_in (by simpa [Ne.symm hu] using h) e
theorem Stt.wipe (S : Stt K P H ρ σ FE) (vs : List Nat) : Stt K P H (wipeE ρ vs) (L2.wipe σ vs) FE where
  pin := S.pin
  fin := S.fin
  dj := S.dj
  rel := fun i d e => by
    obtain ⟨h1, h2⟩ := wipeE_in e
    obtain ⟨v, e1, r⟩ := S.rel i d h2
    exact ⟨v, by rw [wipe_get h1]; exact e1, r⟩
  len := by rw [wipeE_len, wipe_length, S.len]
  tab := S.tab
/-- behind a block's turn: forget the block's names -/
theorem Stt.wipe2 {σ0 : L2.St} (S : Stt K P H ρ σ FE) {vs : List Nat} (h : L2.wipe σ vs = L2.wipe σ0 vs) : Stt K P H (wipeE ρ vs) (L2.wipe σ0 vs) FE := h ▸ S.wipe vs
/-- an object of a thing at hand is written -/
theorem Stt.write {a : Addr} {o u : HO} (S : Stt K P H ρ σ FE) (e : H a = some u) (n : Nd u) (h1 : ¬ P a) (h2 : ¬ U FE a) (no : Nd o := by constructor) : Stt K P (upd H a o) ρ σ FE where
  tab := tabs_write S.tab e n no
  pin := fun b q => by rw [upd_ne (fun e => h1 (by rw [← e]; exact q))]; exact S.pin b q
  fin := fun i b q => ⟨by rw [upd_ne (fun e => h2 ⟨i, by rw [← e]; exact q⟩)]; exact (S.fin i b q).1, (S.fin i b q).2⟩
  dj := S.dj
  rel := fun i d e => by
    obtain ⟨v, e1, r⟩ := S.rel i d e
    exact ⟨v, e1, rl_mono r (fun _ q => q) (fun b o e q _ => by rw [upd_ne]; exact e; intro z; subst z; exact (q rfl).elim h1 fun w => h2 ⟨i, w⟩) fun _ q => q⟩
  len := S.len
theorem Tr.write {U0 U1 : AS} {P0 : AS} {H0 : Hp} {a : Addr} {o : HO} (t : Tr P0 H0 U0 P H U1) (h : U1 a) : Tr P0 H0 U0 P (upd H a o) U1 where
  frame := fun b u e n nt => by
    rw [upd_ne]
    · exact t.frame b u e n nt
    · intro z; subst z
      exact (t.sub _ h).elim n fun w => by rw [e] at w; cases w
  mono := t.mono
  back := t.back
  sub := t.sub
  alive := fun b q => by
    by_cases z : b = a
    · subst z; rw [upd_same]; simp
    · rw [upd_ne z]; exact t.alive b q
end
section
variable {X : Cx} {RX : RXR} {W : WX}
def tLcD (K : PySem.W.Frag) (RX : RXR) (W : WX) (i : Ev → R (List D)) (t : D → Ev → Option Ev) (c : Ev → R Bool) (f : Ev → R D) (kp vs : List Nat) : TE :=
  tLc (tI K RX W i) (tG K kp t) (tT K RX (fun _ _ _ _ => False) c) (tE K RX (fun _ _ _ _ => False) f) vs
/-- the reading of a comprehension -/
theorem lc_ok {K : PySem.W.Frag} {i : Ev → R (List D)} {t : D → Ev → Option Ev} {c : Ev → R Bool} {f : Ev → R D} {kp vs : List Nat} {n : Nat} (hkp : kp = (List.range n).filter fun j => decide (j ∉ vs)) {σ : L2.St} {H : Hp} {Q : VK} (hn : σ.length = n)
    (q : tE K RX W (fLc i t c f vs) σ H Q) : tLcD K RX W i t c f kp vs σ H Q := by
  obtain ⟨P, ρ, FE, S, q⟩ := q
  refine ⟨P, ρ, FE, S, ?_⟩
  unfold fLc at q
  cases e : i ρ with
  | exc x ρ1 => simp only [e, R.bind] at q; exact q
  | stk => simp only [e, R.bind] at q
  | ok ds ρ1 =>
    simp only [e, R.bind] at q
    intro J P1 H1 FE1 S1 t1 wk A hA
    by_cases hc : immAt ρ1 vs = true ∧ ds.length ≤ sizeLine
    · simp only [if_pos hc] at q
      cases hl : loopC t c f vs ds [] (wipeE ρ1 vs) with
      | exc x ρ2 => simp only [hl] at q
      | stk => simp only [hl] at q
      | ok accF ρF =>
        simp only [hl] at q
        have nP1 : ¬ P1 A := fun z => S1.pin A z hA
        have nU1 : ¬ U FE1 A := fun ⟨j, z⟩ => (S1.fin j A z).1 hA
        have n0 : New P1 H1 P1 (upd H1 A (.lst [])) (fun b => b = A) := New.lst hA S1.pin
        have T0 : Tmp K P1 (upd H1 A (.lst [])) FE1 (.lst true []) (.ref A) (fun b => b = A) := n0.tmp S1 (.lstO (F' := E_) upd_same (fun _ => rfl) (fun b z => z.elim) .nil)
        refine ⟨fun k m H2 => m = ds.length - k ∧ k ≤ ds.length ∧ (∀ b o, P1 b → H1 b = some o → NT o → H2 b = some o) ∧ ∃ P2 ρ2 FE2 acc F2, Stt K P2 H2 ρ2 (wipe σ vs) FE2 ∧ Tmp K P2 H2 FE2 (.lst true acc) (.ref A) F2 ∧ Tr P1 H1 (U FE1) P2 H2 (fun b => U FE2 b ∨ F2 b) ∧
            acc.length ≤ k ∧ loopC t c f vs (ds.drop k) acc ρ2 = .ok accF ρF,
          ⟨ds.length, by simp, Nat.zero_le _, fun b o _ z => n0.same b o z, P1, wipeE ρ1 vs, FE1, [], fun b => b = A, (n0.stt S1).wipe vs, T0, n0.tr, Nat.zero_le _, by simpa using hl⟩, ?_⟩
        rintro k m H2 ⟨rfl, hk, kH, P2, ρ2, FE2, acc, F2, S2, T2, t2, ha, hq⟩
        have kP : ∀ b, P1 b → P2 b := t2.mono
        by_cases hlt : k < ds.length
        · have hd : ds[k]? = some ds[k] := List.getElem?_eq_getElem hlt
          obtain ⟨go, yl⟩ := wk.go P2 H2 k ds[k] S2.tab kP kH hd
          rw [List.drop_eq_getElem_cons hlt] at hq
          refine .inr ⟨go, fun H' => (∀ b o, P1 b → H1 b = some o → NT o → H' b = some o) ∧ ∃ P3 ρ3 FE3 acc3 F3, Stt K P3 H' ρ3 (wipe σ vs) FE3 ∧ Tmp K P3 H' FE3 (.lst true acc3) (.ref A) F3 ∧ Tr P1 H1 (U FE1) P3 H' (fun b => U FE3 b ∨ F3 b) ∧
              acc3.length ≤ k + 1 ∧ loopC t c f vs (ds.drop (k + 1)) acc3 ρ3 = .ok accF ρF, fun H' ⟨k1, z⟩ => ⟨ds.length - (k + 1), by omega, rfl, hlt, k1, z⟩, fun x H3 y => ?_⟩
          obtain ⟨P3, n3, r3⟩ := yl x H3 y
          have S3 := n3.stt S2
          have u3 : Tr P2 H2 (U FE2) P3 H3 (fun b => U FE2 b ∨ E_ b) := n3.tr
          have T3 := (T2.step S2 u3).1
          have t3 : Tr P1 H1 (U FE1) P3 H3 (fun b => U FE2 b ∨ F2 b) := (t2.seq u3).less fun b z => z.elim (fun z => .inl (.inl z)) .inr
          refine ⟨P3, ρ2, FE2, ds[k], E_, S3, ⟨r3, fun b z => z.elim⟩, ?_⟩
          simp only [loopC] at hq
          cases e1 : t ds[k] ρ2 with
          | none => simp only [e1] at hq; cases hq
          | some ρ4 =>
            simp only [e1] at hq
            intro σ4 P4 H4 FE4 S4 u4' k4
            have u4 : Tr P3 H3 (U FE2) P4 H4 (fun b => U FE4 b ∨ E_ b) := ⟨fun b o e n => u4'.frame b o e fun z => z.elim n False.elim, u4'.mono, fun b z => (u4'.back b z).imp id fun z => z.imp (fun z => z.elim id False.elim) id, fun b z => (u4'.sub b (z.elim id False.elim)).imp (fun z => z.elim id False.elim) id, u4'.alive⟩
            have T4 := (T3.step S3 u4).1
            have t4 : Tr P1 H1 (U FE1) P4 H4 (fun b => U FE4 b ∨ F2 b) := (t3.seq u4).less fun b z => z.elim (fun z => .inl (.inl z)) .inr
            have hw : wipe σ4 vs = wipe σ vs := by
              refine wipe_eq (k4.1.trans (wipe_length _ _)) fun j hj => ?_
              by_cases hj2 : j < n
              · rw [k4.2 j (by rw [hkp]; exact List.mem_filter.mpr ⟨List.mem_range.mpr hj2, decide_eq_true hj⟩), wipe_get hj]
              · have l4 : σ4.length = σ.length := k4.1.trans (wipe_length _ _)
                rw [List.getElem?_eq_none (by omega), List.getElem?_eq_none (by omega)]
            refine ⟨hw, P4, ρ4, FE4, S4, ?_⟩
            cases e2 : c ρ4 with
            | exc x ρ5 => simp only [e2] at hq; cases hq
            | stk => simp only [e2] at hq; cases hq
            | ok b ρ5 =>
              intro P5 H5 FE5 S5 u5'
              have u5 : Tr P4 H4 (U FE4) P5 H5 (fun b => U FE5 b ∨ E_ b) := u5'.less fun b z => z.elim id False.elim
              have T5 := (T4.step S4 u5).1
              have t5 : Tr P1 H1 (U FE1) P5 H5 (fun b => U FE5 b ∨ F2 b) := (t4.seq u5).less fun b z => z.elim (fun z => .inl (.inl z)) .inr
              cases b with
              | false =>
                simp only [e2] at hq
                exact ⟨fun b o p e => t5.frame b o e fun ⟨j, z⟩ => (S1.fin j b z).2 p, P5, wipeE ρ5 vs, FE5, acc, F2, S5.wipe2 hw, T5, t5, by omega, hq⟩
              | true =>
                simp only [e2] at hq
                refine ⟨P5, ρ5, FE5, S5, ?_⟩
                cases e3 : f ρ5 with
                | exc x ρ6 => simp only [e3] at hq; cases hq
                | stk => simp only [e3] at hq; cases hq
                | ok d ρ6 =>
                  simp only [e3] at hq
                  intro v P6 H6 FE6 F6 S6 T6 u6
                  obtain ⟨T7, dj⟩ := T5.step S5 u6
                  have t6 : Tr P1 H1 (U FE1) P6 H6 (fun b => U FE6 b ∨ (F2 b ∨ F6 b)) := (t5.seq u6).less fun b z => by
                    rcases z with z | z | z
                    · exact .inl (.inl z)
                    · exact .inr z
                    · exact .inl (.inr z)
                  obtain ⟨r7, o7⟩ := T7
                  cases r7 with
                  | @lstO _ vsa _ _ F' ea fA s rs =>
                    have nA6 := o7 A (fA rfl)
                    have nF6 : ¬ F6 A := fun z => dj A (fA rfl) z
                    have nF' : ¬ F' A := fun z => (s A z).2 rfl
                    have la : vsa.length < sizeLine := by
                      rw [← rls_len rs]
                      exact Nat.lt_of_le_of_lt ha (Nat.lt_of_lt_of_le hlt hc.2)
                    refine ⟨vsa, ea, la, fun b o p e => ?_, P6, wipeE ρ6 vs, FE6, acc ++ [d], fun b => F2 b ∨ F6 b, (S6.write ea .lst nA6.2.1 nA6.2.2).wipe2 hw, ⟨.lstO (F' := fun b => F' b ∨ F6 b) upd_same (fun z => .inl (fA z)) (fun b z => z.elim (fun z => ⟨.inl (s b z).1, (s b z).2⟩) fun z => ⟨.inr z, fun w => nF6 (by rw [← w]; exact z)⟩) ?_, fun b z => ?_⟩,
                      t6.write (.inr (.inl (fA rfl))), by rw [List.length_append, List.length_singleton]; omega, hq⟩
                    · rw [upd_ne]
                      · exact t6.frame b o e fun ⟨j, z⟩ => (S1.fin j b z).2 p
                      · intro w; subst w; exact nP1 p
                    · have mv : ∀ {F : AS} {d : D} {v : V}, Rl true K P6 H6 d v F → ¬ F A → Rl true K P6 (upd H6 A (.lst (vsa ++ [v]))) d v F := fun r nz => rl_mono r (fun _ q => q) (fun b o e q _ => by
                        rw [upd_ne]
                        · exact e
                        · intro w; subst w; exact (q rfl).elim nA6.2.1 nz) fun _ q => q
                      refine rls_snoc (F1 := F') (F2 := F6) (rls_mono rs (fun _ q => q) (fun b o e q _ => ?_) fun _ q => q) (mv T6.rl nF6) (fun b z => .inl z) (fun b z => .inr z) fun b z w => dj b (s b z).1 w
                      rw [upd_ne]
                      · exact e
                      · intro w; subst w; exact (q rfl).elim nA6.2.1 nF'
                    · have h : H6 b ≠ none ∧ ¬ P6 b ∧ ¬ U FE6 b := z.elim (o7 b) (T6.own b)
                      refine ⟨?_, h.2⟩
                      by_cases w : b = A
                      · subst w; rw [upd_same]; simp
                      · rw [upd_ne w]; exact h.1
        · have e : k = ds.length := by omega
          subst e
          rw [List.drop_length] at hq
          simp only [loopC] at hq
          cases hq
          have hU : ∀ b, U (fun j b => if j ∈ vs then False else FE2 j b) b → U FE2 b := fun b ⟨j, z⟩ => by
            have z : (if j ∈ vs then False else FE2 j b) := z
            by_cases hj : j ∈ vs
            · rw [if_pos hj] at z; exact z.elim
            · rw [if_neg hj] at z; exact ⟨j, z⟩
          refine .inl ⟨wk.stop H2 kH, q (.ref A) P2 H2 (fun j b => if j ∈ vs then False else FE2 j b) F2 ⟨S2.pin, fun j b z => ?_, fun j j' b z w => ?_, fun j d z => ?_, ?_, S2.tab⟩ ⟨T2.rl, fun b z => ⟨(T2.own b z).1, (T2.own b z).2.1, fun w => (T2.own b z).2.2 (hU b w)⟩⟩ ?_⟩
          · have z : (if j ∈ vs then False else FE2 j b) := z
            by_cases hj : j ∈ vs
            · rw [if_pos hj] at z; exact z.elim
            · rw [if_neg hj] at z; exact S2.fin j b z
          · have z : (if j ∈ vs then False else FE2 j b) := z
            have w : (if j' ∈ vs then False else FE2 j' b) := w
            by_cases hj : j ∈ vs
            · rw [if_pos hj] at z; exact z.elim
            · rw [if_neg hj] at z
              by_cases hj' : j' ∈ vs
              · rw [if_pos hj'] at w; exact w.elim
              · rw [if_neg hj'] at w; exact S2.dj j j' b z w
          · by_cases hj : j ∈ vs
            · have z1 := backE_in hj z
              obtain ⟨v, e1, r1⟩ := S1.rel j d z1
              refine ⟨v, e1, ?_⟩
              have hi : isImm d = true := by
                have := List.all_eq_true.mp hc.1 j hj
                simpa only [z1] using this
              exact rl_mono (z := true) (F := E_) (rl_imm r1 hi) kP (fun b o e p => kH b o ((p rfl).elim id False.elim) e) fun b z => z.elim
            · rw [backE_get hj] at z
              obtain ⟨v, e1, r1⟩ := S2.rel j d z
              rw [wipe_get hj] at e1
              exact ⟨v, e1, rl_mono r1 (fun _ q => q) (fun _ _ e _ _ => e) fun b z => by show (if j ∈ vs then False else FE2 j b); rw [if_neg hj]; exact z⟩
          · rw [backE_len]
            have := S2.len
            rw [wipe_length] at this
            exact this
          · exact t1.trans (t2.less fun b z => z.imp (hU b) id)
    · simp only [if_neg hc] at q
end
end Hap
namespace Hap
open PySem PySem.Spec PyProof.Rows L2
variable [TabC]
section
variable {X : Cx} {RX : RXR} {W : WX}
theorem de_lc {e : Expr} {i : Ev → R (List D)} {t : D → Ev → Option Ev} {c : Ev → R Bool} {f : Ev → R D} {kp vs : List Nat} (hkp : kp = (List.range X.N.length).filter fun j => decide (j ∉ vs))
    (h : PE X e (tLcD X.K RX W i t c f kp vs)) : DE X RX W e (fLc i t c f vs) := ⟨fun pins s σ H Q I q => h.run pins s σ H Q I (lc_ok hkp I.len q)⟩
theorem ds_setLc {s : Stmt} {n : Nat} {i : Ev → R (List D)} {t : D → Ev → Option Ev} {c : Ev → R Bool} {f : Ev → R D} {kp kpo vs : List Nat} (hkp : kp = (List.range X.N.length).filter fun j => decide (j ∉ vs))
    (h : PS X s (tAsg (tLcD X.K RX W i t c f kp vs) (gName n))) (hk : n ∉ kpo) : DS X RX W kpo s (fAsg (fLc i t c f vs) (gN n)) :=
  ds_set ⟨fun pins s σ H D I q => h.run pins s σ H D I (lc_ok hkp I.len q)⟩ hk
theorem dts_nil : PTs X [] (tT X.K RX W fun ρ => .ok true ρ) := ⟨fun pins s σ H Q I ⟨P, ρ, FE, S, q⟩ => pts_nil.run pins s σ H Q I (q P H FE S Tr.refl)⟩
theorem dts_one {c : Expr} {f : Ev → R Bool} (h : DT X RX W c f) : PTs X [c] (tT X.K RX W f) := pts_one h
end
inductive RF where
  | rt (d : D) (outs : Ev)
  | exc (x : DX) (outs : Ev)
  | stk
abbrev Fn := List D → RF
def spD (K : PySem.W.Frag) (RX : RXR) (io : List Bool) (sem : Fn) : Sp := fun vs H Q E => vs.length = io.length ∧ ∃ P ds FA, Stt K P H (ds.map some) (vs.map some) FA ∧ (∀ i, io[i]? ≠ some true → ∀ b, ¬ FA i b) ∧ match sem ds with
  | .rt d outs => ∀ v P' H' FA' F, Stt K P' H' outs (vs.map some) FA' → Tmp K P' H' FA' d v F → Tr P H (U FA) P' H' (fun b => U FA' b ∨ F b) → Q v H'
  | .exc x outs => ∀ cls dx P' H' FA', Stt K P' H' outs (vs.map some) FA' → Tr P H (U FA) P' H' (U FA') → RX x P' H' cls dx → E cls dx H'
  | .stk => False
def outsOf : List Bool → Ev → Ev
  | [], _ => []
  | _ :: bs, [] => none :: outsOf bs []
  | b :: bs, o :: os => (if b = true then o else none) :: outsOf bs os
theorem outsOf_len : ∀ (io : List Bool) (ρ : Ev), (outsOf io ρ).length = io.length
  | [], _ => rfl
  | _ :: bs, [] => congrArg (· + 1) (outsOf_len bs [])
  | _ :: bs, _ :: os => congrArg (· + 1) (outsOf_len bs os)
theorem outsOf_get : ∀ {io : List Bool} {ρ : Ev} {i : Nat} {d : D}, (outsOf io ρ)[i]? = some (some d) → io[i]? = some true ∧ ρ[i]? = some (some d)
  | [], _, _, _, h => by simp [outsOf] at h
  | _ :: bs, [], 0, _, h => by simp [outsOf] at h
  | _ :: bs, [], i + 1, d, h => by
    simp only [outsOf, List.getElem?_cons_succ] at h
    have := outsOf_get h
    simp at this
  | b :: bs, o :: os, 0, d, h => by
    simp only [outsOf, List.getElem?_cons_zero] at h
    cases b with
    | true => simp only [if_pos] at h; exact ⟨rfl, h⟩
    | false => simp at h
  | b :: bs, o :: os, i + 1, d, h => by
    simp only [outsOf, List.getElem?_cons_succ] at h
    obtain ⟨h1, h2⟩ := outsOf_get h
    exact ⟨by simpa using h1, by simpa using h2⟩
/-- what a def does, by its body -/
def semOf (io : List Bool) (n : Nat) (g : Ev → RS) : Fn := fun ds => match g (ds.map some ++ List.replicate (n - ds.length) none) with
  | .nx ρ => .rt .non (outsOf io ρ)
  | .rt d ρ => .rt d (outsOf io ρ)
  | .exc x ρ => .exc x (outsOf io ρ)
  | _ => .stk
/-- the places of what is changed -/
def kpOf (io : List Bool) : List Nat := (List.range io.length).filter fun i => io[i]? == some true
theorem kpOf_in {io : List Bool} {i : Nat} (h : io[i]? = some true) : i ∈ kpOf io := by
  refine List.mem_filter.mpr ⟨List.mem_range.mpr (List.getElem?_eq_some_iff.mp h).1, ?_⟩
  rw [h]; rfl
section
variable {P : Program} {w : World} {K : PySem.W.Frag} {mg : Str → Option Value} {base : Heap} {RX : RXR}
/-- around a body nothing is let out -/
theorem takesN0 {X : Cx} : L2N.Takes X (fun _ _ _ _ => False) := fun _ _ x => by
  obtain ⟨_, _, _, _, _, _, _, _, _, _, _, _, _, _, _, _, z⟩ := x
  exact z.elim
theorem fn_okL {x qual : Str} {st : Stmt} {f : Addr} {oc : Value} {od an : Option Addr} {kV doc pm cdv ct : Value} {osl : Array (Option Value)} {N ps : List Str} {k n : Nat} {io : List Bool} {g : Ev → RS} (lk : K.lookup f = some ⟨oc, od, .func (PySem.W.fnOf x qual (defArgs st) (defBody st) (defScope st) .none kV doc pm an cdv ct), osl⟩) (hcd : PySem.W.codeIn K cdv qual = true) (S : FnScope N ps (defScope st)) (hl : ps.length = io.length) (hn : N.length = n)
    (body : ∀ (A : Around) (outer : List Env) (s : Shared) (H : Hp) (E : XK), Room k (A.deeper (envOfC qual (defScope st) s.heap.objs.size f cdv)) →
      DSs (cxOf (L2N.CX P w) P w K mg base N qual (defScope st) f cdv A outer s H E) RX (fun cls d _ H => E cls d H) (kpOf io) (defBody st) g) :
    FnOk P w K mg base (L2N.CX P w) (k + 1) f (PySem.W.fnOf x qual (defArgs st) (defBody st) (defScope st) .none kV doc pm an cdv ct) ps (spD K RX io (semOf io n g)) := by
  refine fn_of lk hcd S (fun vs H Q E h => h.1.trans hl.symm) fun A outer s H vs Q E hr h => ⟨_, body A outer s H E hr, ?_⟩
  obtain ⟨hlen, Pp, ds, FA, St0, hio, h⟩ := h
  have ld : ds.length = vs.length := by simpa using St0.len
  have lps : ps.length ≤ N.length := by
    have := congrArg List.length S.pre
    rw [List.length_take] at this
    omega
  have lvn : vs.length ≤ n := by omega
  refine ⟨Pp, ds.map some ++ List.replicate (n - ds.length) none, FA, ⟨St0.pin, St0.fin, St0.dj, fun i d e => ?_, ?_, St0.tab⟩, ?_⟩
  · by_cases hi : i < ds.length
    · rw [List.getElem?_append_left (by simpa using hi)] at e
      obtain ⟨v, e1, r⟩ := St0.rel i d e
      refine ⟨v, ?_, r⟩
      unfold L2.start
      rw [List.getElem?_append_left (by rw [List.length_map]; omega)]
      exact e1
    · rw [List.getElem?_append_right (by simpa using hi), List.getElem?_replicate] at e
      split at e <;> cases e
  · unfold L2.start
    simp only [List.length_append, List.length_map, List.length_replicate]
    omega
  have back : ∀ {σ' : L2.St} {P' : AS} {H' : Hp} {FE' : FP} {ρ' : Ev}, Stt K P' H' ρ' σ' FE' → Kp (kpOf io) (L2.start N vs) σ' → Stt K P' H' (outsOf io ρ') (vs.map some) FE' := by
    intro σ' P' H' FE' ρ' S' kk
    refine ⟨S'.pin, S'.fin, S'.dj, fun i d e => ?_, ?_, S'.tab⟩
    · obtain ⟨h1, h2⟩ := outsOf_get e
      obtain ⟨v, e1, r⟩ := S'.rel i d h2
      refine ⟨v, ?_, r⟩
      rw [kk.2 i (kpOf_in h1)] at e1
      unfold L2.start at e1
      have hi : i < vs.length := by
        have := (List.getElem?_eq_some_iff.mp h1).1
        omega
      rw [List.getElem?_append_left (by simpa using hi)] at e1
      exact e1
    · rw [outsOf_len, List.length_map, hlen]
  unfold semOf at h
  cases e : g (ds.map some ++ List.replicate (n - ds.length) none) with
  | nx ρ' => simp only [e] at h; exact fun σ' P' H' FE' S' t k' => h .non P' H' FE' E_ (back S' k') ⟨.non, fun b z => z.elim⟩ (t.less fun b z => z.elim id False.elim)
  | rt d ρ' => simp only [e] at h; exact fun v σ' P' H' FE' F' S' T' t k' => h v P' H' FE' F' (back S' k') T' t
  | exc x ρ' => simp only [e] at h; exact fun cls dx σ' P' H' FE' S' t k' r => h cls dx P' H' FE' (back S' k') t r
  | bk ρ' => simp only [e] at h
  | ct ρ' => simp only [e] at h
  | stk => simp only [e] at h
theorem fn_ok {x qual : Str} {st : Stmt} {f : Addr} {fd : FuncData} {N ps : List Str} {k n : Nat} {io : List Bool} {g : Ev → RS} (F : Fun K x qual st f fd) (S : FnScope N ps (defScope st)) (hl : ps.length = io.length) (hn : N.length = n)
    (body : ∀ (cdv : Value) (A : Around) (outer : List Env) (s : Shared) (H : Hp) (E : XK), Room k (A.deeper (envOfC qual (defScope st) s.heap.objs.size f cdv)) →
      DSs (cxOf (L2N.CX P w) P w K mg base N qual (defScope st) f cdv A outer s H E) RX (fun cls d _ H => E cls d H) (kpOf io) (defBody st) g) :
    FnOk P w K mg base (L2N.CX P w) (k + 1) f fd ps (spD K RX io (semOf io n g)) := by
  obtain ⟨oc, od, kV, doc, pm, an, cdv, ct, osl, rfl, lk, hcd⟩ := F.ex
  exact fn_okL lk hcd S hl hn (body cdv)
end
def callR (r : RF) (ρ : Ev) (upd : Ev → Ev) : R D := match r with
  | .rt d outs => .ok d (upd outs)
  | .exc x outs => .exc x (upd outs)
  | .stk => .stk
def fCall (n : Nat) (sem : Fn) (fa : Ev → R (List D)) : Ev → R D := fun ρ => (fa ρ).bind fun ds ρ1 => if ds.length = n then callR (sem (frzs ds)) ρ1 fun _ => ρ1 else .stk
def hd0 (outs : Ev) : Option D := match outs with
  | o :: _ => o
  | [] => none
/-- the first argument is a thing of one's own, at slot j -/
def fCallIO (j n : Nat) (sem : Fn) (fa : Ev → R (List D)) : Ev → R D := fun ρ => match ρ[j]? with
  | some (some _) => (fa ρ).bind fun ds ρ1 => (match ρ1[j]? with
    | some (some d0) => if ds.length + 1 = n then callR (sem (d0 :: frzs ds)) ρ1 fun outs => ρ1.set j (hd0 outs) else .stk
    | _ => .stk)
  | _ => .stk
section
variable {X : Cx} {RX : RXR} {W : WX} {k n : Nat} {f : Addr} {fd : FuncData} {ps : List Str} {sem : Fn} {x : Str} {p pos : Pos} {e : Expr} {es : List Expr} {fa : Ev → R (List D)}
theorem frzs_len : ∀ ds : List D, (frzs ds).length = ds.length
  | [] => rfl
  | _ :: ds => congrArg (· + 1) (frzs_len ds)
theorem de_call (F : FnOk X.prog X.w X.K X.mg X.base (L2N.CX X.prog X.w) k f fd ps (spD X.K RX (List.replicate n false) sem)) (hr : Room k X.A) (hg : Gl X x) (hm : X.mg x = some (.ref f)) (hk : PySem.W.keepIn X.K (.ref f) = true) (hb : Binds X.K fd ps []) (tk : L2N.Takes X W)
    (ha : DA X RX W (e :: es) fa) (hdb : (x == ("__debug__" : Str)) = false := by decide)
    (he : starEach (e :: es) X.env = (false, eval e X.env) :: starEach es X.env := by rfl) (hpl : (backTo pos (starEach es X.env)).any (·.1) = false := by rfl) : DE X RX W (.Call (.Name x p) (e :: es) [] pos) (fCall n sem fa) := by
  refine pe_imp (pe_callS F hr hg hm hk hb (fun σ => L2N.passAt tk σ) ha hdb he hpl) fun σ H Q q => ?_
  obtain ⟨P, ρ, FE, S, q⟩ := q
  refine ⟨P, ρ, FE, S, ?_⟩
  unfold fCall at q
  cases e1 : fa ρ with
  | exc x ρ1 => simp only [e1, R.bind] at q; exact q
  | stk => simp only [e1, R.bind] at q
  | ok ds ρ1 =>
    simp only [e1, R.bind] at q
    intro vs P1 H1 FE1 F1 S1 T1 t1
    by_cases hl : ds.length = n
    · simp only [if_pos hl] at q
      have lv := rls_len T1.rl
      have Sc := S1.give fun b z => ⟨(T1.own b z).1, (T1.own b z).2.2⟩
      refine ⟨by rw [List.length_replicate]; omega, fun b => P1 b ∨ F1 b, frzs ds, fun _ => E_, ⟨Sc.pin, fun i b z => z.elim, fun i j b z => z.elim, fun i d e2 => ?_, ?_, Sc.tab⟩, fun i _ b z => z.elim, ?_⟩
      · rw [List.getElem?_map] at e2
        cases e3 : (frzs ds)[i]? with
        | none => rw [e3] at e2; cases e2
        | some d' =>
          rw [e3] at e2; cases e2
          obtain ⟨v, e4, r⟩ := rls_get (rls_frz (z := true) (F' := E_) T1.rl (fun b z => Or.inl z) fun b z => Or.inr z) e3
          exact ⟨v, by rw [List.getElem?_map, e4]; rfl, r⟩
      · rw [List.length_map, List.length_map, frzs_len]; exact lv
      · cases e2 : sem (frzs ds) with
        | stk => simp only [e2, callR] at q
        | rt d outs =>
          simp only [e2, callR] at q
          intro v P2 H2 FA' F2 S2 T2 t2
          have n2 : New (fun b => P1 b ∨ F1 b) H1 P2 H2 F2 := ⟨fun b o e => t2.frame b o e fun ⟨_, z⟩ => z, t2.alive, fun _ => S2.tab, t2.mono, fun b z => (t2.back b z).imp id fun w => ⟨w.elim (fun ⟨_, z⟩ => z.elim) id, S2.pin b z⟩, fun b z => ⟨(t2.sub b (.inr z)).elim (fun ⟨_, z⟩ => z.elim) id, (T2.own b z).1, (T2.own b z).2.1⟩⟩
          exact q v P2 H2 FE1 F2 (n2.stt Sc) (n2.tmp Sc T2.rl) (t1.give.trans n2.tr)
        | exc xx outs =>
          simp only [e2, callR] at q
          intro cls dx P2 H2 FA' S2 t2 r
          have n2 : New (fun b => P1 b ∨ F1 b) H1 P2 H2 E_ := ⟨fun b o e => t2.frame b o e fun ⟨_, z⟩ => z, t2.alive, fun _ => S2.tab, t2.mono, fun b z => (t2.back b z).imp id fun w => ⟨w.elim (fun ⟨_, z⟩ => z.elim) id, S2.pin b z⟩, fun b z => z.elim⟩
          exact q cls dx P2 H2 FE1 (n2.stt Sc) (t1.give.trans n2.tr.less') r
    · simp only [if_neg hl] at q
theorem de_callIO {j : Nat} {m : Nat} (F : FnOk X.prog X.w X.K X.mg X.base (L2N.CX X.prog X.w) k f fd ps (spD X.K RX (true :: List.replicate m false) sem)) (hr : Room k X.A) (hg : Gl X x) (hm : X.mg x = some (.ref f)) (hk : PySem.W.keepIn X.K (.ref f) = true) (hb : Binds X.K fd ps []) (tk : L2N.Takes X W)
    (hv : PE X e (tVar j)) (ha : DA X RX W es fa) (hdb : (x == ("__debug__" : Str)) = false := by decide)
    (he : starEach (e :: es) X.env = (false, eval e X.env) :: starEach es X.env := by rfl) (hpl : (backTo pos (starEach es X.env)).any (·.1) = false := by rfl) : DE X RX W (.Call (.Name x p) (e :: es) [] pos) (fCallIO j (m + 1) sem fa) := by
  refine pe_imp (pe_callS F hr hg hm hk hb (fun σ => L2N.passAt tk σ) (pa_cons hv ha he) hdb he hpl) fun σ H Q q => ?_
  obtain ⟨P, ρ, FE, S, q⟩ := q
  unfold fCallIO at q
  cases e0 : ρ[j]? with
  | none => simp only [e0] at q
  | some o =>
    cases o with
    | none => simp only [e0] at q
    | some dd =>
    simp only [e0] at q
    obtain ⟨v0, ev0, _⟩ := S.rel j dd e0
    refine ⟨v0, ev0, P, ρ, FE, S, ?_⟩
    cases e1 : fa ρ with
    | exc x ρ1 => simp only [e1, R.bind] at q; exact q
    | stk => simp only [e1, R.bind] at q
    | ok ds ρ1 =>
      simp only [e1, R.bind] at q
      intro vs P1 H1 FE1 F1 S1 T1 t1
      cases e5 : ρ1[j]? with
      | none => simp only [e5] at q
      | some o =>
        cases o with
        | none => simp only [e5] at q
        | some d0 =>
        simp only [e5] at q
        by_cases hl : ds.length + 1 = m + 1
        · simp only [if_pos hl] at q
          have lv := rls_len T1.rl
          have Sc := S1.give fun b z => ⟨(T1.own b z).1, (T1.own b z).2.2⟩
          obtain ⟨v0', ev0', r0⟩ := Sc.rel j d0 e5
          rw [ev0] at ev0'; cases ev0'
          have nE : ∀ b, U (fun i b => i = 0 ∧ FE1 j b) b → FE1 j b := fun b ⟨_, z⟩ => z.2
          have Stc : Stt X.K (fun b => P1 b ∨ F1 b) H1 ((d0 :: frzs ds).map some) ((v0 :: vs).map some) (fun i b => i = 0 ∧ FE1 j b) := by
            refine ⟨Sc.pin, fun i b z => Sc.fin j b z.2, fun i i' b z w => z.1.trans w.1.symm, fun i d e2 => ?_, ?_, Sc.tab⟩
            · cases i with
              | zero =>
                simp only [List.map_cons, List.getElem?_cons_zero] at e2 ⊢
                cases e2
                exact ⟨v0, rfl, rl_mono r0 (fun _ q => q) (fun _ _ e _ _ => e) fun b z => by first | exact ⟨rfl, z⟩ | exact ⟨trivial, z⟩⟩
              | succ i =>
                simp only [List.map_cons, List.getElem?_cons_succ] at e2 ⊢
                rw [List.getElem?_map] at e2
                cases e3 : (frzs ds)[i]? with
                | none => rw [e3] at e2; cases e2
                | some d' =>
                  rw [e3] at e2; cases e2
                  obtain ⟨v, e4, r⟩ := rls_get (rls_frz (z := true) (F' := E_) T1.rl (fun b z => Or.inl z) fun b z => Or.inr z) e3
                  exact ⟨v, by rw [List.getElem?_map, e4]; rfl, rl_mono r (fun _ q => q) (fun _ _ e _ _ => e) fun b z => z.elim⟩
            · simp only [List.length_map, List.length_cons, frzs_len]; omega
          -- the state behind the call
          have after : ∀ {P2 : AS} {H2 : Hp} {FA' : FP} {F2 : AS} {outs : Ev}, Stt X.K P2 H2 outs ((v0 :: vs).map some) FA' → Tr (fun b => P1 b ∨ F1 b) H1 (U fun i b => i = 0 ∧ FE1 j b) P2 H2 (fun b => U FA' b ∨ F2 b) → (∀ b, F2 b → ¬ U FA' b) →
              Stt X.K P2 H2 (ρ1.set j (hd0 outs)) σ (fun i b => (i = j ∧ FA' 0 b) ∨ (i ≠ j ∧ FE1 i b)) ∧ Tr P H (U FE) P2 H2 (fun b => U (fun i b => (i = j ∧ FA' 0 b) ∨ (i ≠ j ∧ FE1 i b)) b ∨ F2 b) ∧
                ∀ b, F2 b → ¬ U (fun i b => (i = j ∧ FA' 0 b) ∨ (i ≠ j ∧ FE1 i b)) b := by
            intro P2 H2 FA' F2 outs S2 t2 hd2
            have keep : ∀ b o, H1 b = some o → ¬ FE1 j b → NT o → H2 b = some o := fun b o e n => t2.frame b o e fun z => n (nE b z)
            have new0 : ∀ b, FA' 0 b → FE1 j b ∨ H1 b = none := fun b z => (t2.sub b (.inl ⟨0, z⟩)).imp (nE b) id
            have newF : ∀ b, F2 b → FE1 j b ∨ H1 b = none := fun b z => (t2.sub b (.inr z)).imp (nE b) id
            refine ⟨⟨S2.pin, fun i b z => ?_, fun i i' b z w => ?_, fun i d e2 => ?_, by simpa using S1.len, S2.tab⟩, ⟨fun b o e n nt => ?_, fun b z => t2.mono b (.inl (t1.mono b z)), fun b z => ?_, fun b z => ?_, fun b z => t2.alive b (t1.alive b z)⟩, fun b z w => ?_⟩
            · rcases z with z | z
              · exact S2.fin 0 b z.2
              · obtain ⟨h1, h2⟩ := Sc.fin i b z.2
                refine ⟨t2.alive b h1, fun w => ?_⟩
                rcases t2.back b w with w | w | w
                · exact h2 w
                · exact z.1 (S1.dj i j b z.2 (nE b w))
                · exact h1 w
            · rcases z with z | z <;> rcases w with w | w
              · exact z.1.trans w.1.symm
              · exact ((new0 b z.2).elim (fun q => w.1 (S1.dj _ _ b w.2 q)) fun q => (S1.fin _ b w.2).1 q).elim
              · exact ((new0 b w.2).elim (fun q => z.1 (S1.dj _ _ b z.2 q)) fun q => (S1.fin _ b z.2).1 q).elim
              · exact S1.dj i i' b z.2 w.2
            · by_cases hi : i = j
              · subst hi
                have hlt : i < ρ1.length := (List.getElem?_eq_some_iff.mp e5).1
                rw [List.getElem?_set_self hlt] at e2
                have e3 : hd0 outs = some d := Option.some.inj e2
                cases outs with
                | nil => exact (nomatch (show (none : Option D) = some d from e3))
                | cons o os =>
                  obtain ⟨v, e4, r⟩ := S2.rel 0 d (by show some o = some (some d); rw [show o = some d from e3])
                  simp only [List.map_cons, List.getElem?_cons_zero] at e4
                  cases e4
                  exact ⟨v0, ev0, rl_mono r (fun _ q => q) (fun _ _ e _ _ => e) fun b z => .inl ⟨rfl, z⟩⟩
              · rw [List.getElem?_set_ne (Ne.symm hi)] at e2
                obtain ⟨v, e4, r⟩ := S1.rel i d e2
                refine ⟨v, e4, rl_mono r (fun b z => t2.mono b (.inl z)) (fun b o e q => keep b o e fun z => ?_) fun b z => .inr ⟨hi, z⟩⟩
                rcases q rfl with q | q
                · exact (S1.fin j b z).2 q
                · exact hi (S1.dj i j b q z)
            · refine t2.frame b o (t1.frame b o e n nt) (fun z => ?_) nt
              exact (t1.sub b (.inl ⟨j, nE b z⟩)).elim n fun q => by rw [e] at q; cases q
            · rcases t2.back b z with z | z | z
              · rcases z with z | z
                · exact t1.back b z
                · exact (t1.sub b (.inr z)).elim (fun q => .inr (.inl q)) fun q => .inr (.inr q)
              · exact (t1.sub b (.inl ⟨j, nE b z⟩)).elim (fun q => .inr (.inl q)) fun q => .inr (.inr q)
              · refine .inr (.inr ?_)
                cases e : H b with
                | none => rfl
                | some o => exact absurd z (t1.alive b (by rw [e]; simp))
            · have up : FE1 j b ∨ H1 b = none → U FE b ∨ H b = none := fun q => q.elim (fun q => t1.sub b (.inl ⟨j, q⟩)) fun q => by
                refine .inr ?_
                cases e : H b with
                | none => rfl
                | some o => exact absurd q (t1.alive b (by rw [e]; simp))
              rcases z with ⟨i, z | z⟩ | z
              · exact up (new0 b z.2)
              · exact t1.sub b (.inl ⟨i, z.2⟩)
              · exact up (newF b z)
            · obtain ⟨i, w | w⟩ := w
              · exact hd2 b z ⟨0, w.2⟩
              · exact (newF b z).elim (fun q => w.1 (S1.dj _ _ b w.2 q)) fun q => (S1.fin _ b w.2).1 q
          refine ⟨by simp only [List.length_cons, List.length_replicate]; omega, fun b => P1 b ∨ F1 b, d0 :: frzs ds, _, Stc, fun i hi b z => ?_, ?_⟩
          · rw [z.1] at hi; exact hi rfl
          · cases e2 : sem (d0 :: frzs ds) with
            | stk => simp only [e2, callR] at q
            | rt d outs =>
              simp only [e2, callR] at q
              intro v P2 H2 FA' F2 S2 T2 t2
              obtain ⟨A1, A2, A3⟩ := after S2 t2 fun b z => (T2.own b z).2.2
              exact q v P2 H2 _ F2 A1 ⟨T2.rl, fun b z => ⟨(T2.own b z).1, (T2.own b z).2.1, A3 b z⟩⟩ A2
            | exc xx outs =>
              simp only [e2, callR] at q
              intro cls dx P2 H2 FA' S2 t2 r
              obtain ⟨A1, A2, A3⟩ := after (F2 := E_) S2 (t2.less fun b z => z.elim id False.elim) fun b z => z.elim
              exact q cls dx P2 H2 _ A1 A2.less' r
        · simp only [if_neg hl] at q
end
end Hap
namespace Hap
open PySem PySem.Spec PyProof.Rows L2
variable [TabC]
def asB (d : D) (ρ : Ev) : R Bool := match d with
  | .bl b => .ok b ρ
  | _ => .stk
def fTb (f : Ev → R D) : Ev → R Bool := fun ρ => (f ρ).bind asB
def fTv (f : Ev → Option D) : Ev → R Bool := fun ρ => match f ρ with
  | some (.bl b) => .ok b ρ
  | _ => .stk
def fAnd (f g : Ev → R Bool) : Ev → R Bool := fun ρ => (f ρ).bind fun b ρ1 => if b = true then g ρ1 else .ok false ρ1
def fOr (f g : Ev → R Bool) : Ev → R Bool := fun ρ => (f ρ).bind fun b ρ1 => if b = true then .ok true ρ1 else g ρ1
def fNot (f : Ev → R Bool) : Ev → R Bool := fun ρ => (f ρ).bind fun b ρ1 => .ok (!b) ρ1
/-- and, or, not as values -/
def fAndD (f g : Ev → R D) : Ev → R D := fun ρ => (f ρ).bind fun d ρ1 => match d with
  | .bl b => if b = true then g ρ1 else .ok (.bl false) ρ1
  | _ => .stk
def fOrD (f g : Ev → R D) : Ev → R D := fun ρ => (f ρ).bind fun d ρ1 => match d with
  | .bl b => if b = true then .ok (.bl true) ρ1 else g ρ1
  | _ => .stk
def fNotD (f : Ev → R D) : Ev → R D := fun ρ => (f ρ).bind fun d ρ1 => match d with
  | .bl b => .ok (.bl (!b)) ρ1
  | _ => .stk
def fIfE (c : Ev → R Bool) (f g : Ev → R D) : Ev → R D := fun ρ => (c ρ).bind fun b ρ1 => if b = true then f ρ1 else g ρ1
section
variable {K : PySem.W.Frag} {RX : RXR} {W : WX} {σ : L2.St} {H : Hp}
theorem t_val {f : Ev → R D} {Q : Bool → Hp → Prop} (h : tT K RX W (fTb f) σ H Q) : tE K RX W f σ H (fun x H' => ∃ k, x = .bl k ∧ Q k H') := by
  obtain ⟨P, ρ, FE, S, h⟩ := h
  refine ⟨P, ρ, FE, S, ?_⟩
  unfold fTb at h
  cases e : f ρ with
  | ok d ρ1 =>
    simp only [e, R.bind] at h
    cases d with
    | bl b =>
      simp only [asB] at h
      intro v P1 H1 FE1 F1 S1 T1 t1
      exact ⟨b, rl_bl T1.rl, h P1 H1 FE1 S1 t1.less'⟩
    | _ => simp only [asB] at h
  | exc x ρ1 => simp only [e, R.bind] at h; exact h
  | stk => simp only [e, R.bind] at h
theorem t_valV {f : Ev → Option D} {Q : Bool → Hp → Prop} (h : tT K RX W (fTv f) σ H Q) : tV K f σ H (fun x H' => ∃ k, x = .bl k ∧ Q k H') := by
  obtain ⟨P, ρ, FE, S, h⟩ := h
  refine ⟨P, ρ, FE, S, ?_⟩
  unfold fTv at h
  cases e : f ρ with
  | none => simp only [e] at h
  | some d =>
    cases d with
    | bl b =>
      simp only [e] at h
      intro v P1 H1 n1 r1
      exact ⟨b, rl_bl r1, h P1 H1 FE (n1.stt S) n1.tr.less'⟩
    | _ => simp only [e] at h
end
section
variable {X : Cx} {RX : RXR} {W : WX} {a b c : Expr} {pos : Pos}
abbrev DW (X : Cx) (RX : RXR) (W : WX) (e : Expr) (f : Ev → R Bool) : Prop := PW X e (tT X.K RX W f)
theorem dt_val {f : Ev → R D} (h : DE X RX W a f) (he : ∀ whole, isTrue a X.env whole = (do let v ← whole; standAt a.pos; holding [v] (truthy v)) := by intro _; rfl) : DT X RX W a (fTb f) :=
  pt_imp (pt_val h he) fun σ H Q q => t_val q
theorem dt_valV {f : Ev → Option D} (h : DV X a f) (he : ∀ whole, isTrue a X.env whole = (do let v ← whole; standAt a.pos; holding [v] (truthy v)) := by intro _; rfl) : DT X RX W a (fTv f) :=
  pt_imp (pt_val h he) fun σ H Q q => t_valV q
theorem dt_cmpV {op : CmpOp} {r : R2} {g : D → D → Option D} {f k : Ev → Option D} (ho : OpR X (compareOp op) r) (hv : VOp2 X.K r g) (ha : DV X a f) (hb : DV X b k) (hm : behindInMarks op b = false) : DT X RX W (.Compare a [op] [b] pos) (fTv (vOp2 g f k)) :=
  pt_imp (pt_cmpR ho ha hb hm) fun σ H Q q => v_op2 hv (t_valV q)
theorem dt_cmpEV {op : CmpOp} {r : R2} {g : D → D → Option D} {f : Ev → R D} {k : Ev → Option D} (ho : OpR X (compareOp op) r) (hv : VOp2 X.K r g) (ha : DE X RX W a f) (hb : DV X b k) (hm : behindInMarks op b = false) : DT X RX W (.Compare a [op] [b] pos) (fTb (fOp2V g f k)) :=
  pt_imp (pt_cmpR ho ha hb hm) fun σ H Q q => e_op2V hv (t_val q)
theorem dv_cmp {op : CmpOp} {r : R2} {g : D → D → Option D} {f k : Ev → Option D} (ho : OpR X (compareOp op) r) (hv : VOp2 X.K r g) (ha : DV X a f) (hb : DV X b k) (hm : behindInMarks op b = false) : DV X (.Compare a [op] [b] pos) (vOp2 g f k) :=
  pe_imp (pe_cmpR ho ha hb hm) fun σ H Q q => v_op2 hv q
theorem de_cmpEV {op : CmpOp} {r : R2} {g : D → D → Option D} {f : Ev → R D} {k : Ev → Option D} (ho : OpR X (compareOp op) r) (hv : VOp2 X.K r g) (ha : DE X RX W a f) (hb : DV X b k) (hm : behindInMarks op b = false) : DE X RX W (.Compare a [op] [b] pos) (fOp2V g f k) :=
  pe_imp (pe_cmpR ho ha hb hm) fun σ H Q q => e_op2V hv q
theorem de_op {op : Operator} {r : R2} {g : D → D → Option D} {f k : Ev → R D} (ho : OpR X (binaryOp op) r) (hv : VOp2 X.K r g) (ha : DE X RX W a f) (hb : DE X RX W b k) : DE X RX W (.BinOp a op b pos) (fOp2 g f k) :=
  pe_imp (pe_op ho ha hb) fun σ H Q q => e_op2 hv q
theorem dv_op {op : Operator} {r : R2} {g : D → D → Option D} {f k : Ev → Option D} (ho : OpR X (binaryOp op) r) (hv : VOp2 X.K r g) (ha : DV X a f) (hb : DV X b k) : DV X (.BinOp a op b pos) (vOp2 g f k) :=
  pe_imp (pe_op ho ha hb) fun σ H Q q => v_op2 hv q
theorem de_opEV {op : Operator} {r : R2} {g : D → D → Option D} {f : Ev → R D} {k : Ev → Option D} (ho : OpR X (binaryOp op) r) (hv : VOp2 X.K r g) (ha : DE X RX W a f) (hb : DV X b k) : DE X RX W (.BinOp a op b pos) (fOp2V g f k) :=
  pe_imp (pe_op ho ha hb) fun σ H Q q => e_op2V hv q
theorem dv_un {op : UnaryOp} {r : V → Hp → VK → Prop} {g : D → Option D} {f : Ev → Option D} (ho : UnR X (unaryOp op) r) (hv : VOp1 X.K r g) (ha : DV X a f) : DV X (.UnaryOp op a pos) (vOp1 g f) :=
  pe_imp (pe_un ho ha) fun σ H Q q => v_op1 hv q
theorem de_ix {r : R2} {g : D → D → Option D} {f k : Ev → R D} (ho : IxR X r) (hv : VOp2 X.K r g) (ha : DE X RX W a f) (hb : DE X RX W b k) (hs : PlainIx b) : DE X RX W (.Subscript a b pos) (fOp2 g f k) :=
  pe_imp (pe_ix ho ha hb hs) fun σ H Q q => e_op2 hv q
theorem de_callB {x : Str} {p : Pos} {e : Expr} {es : List Expr} {r : List V → Hp → VK → Prop} {g : List D → Option D} {f : Ev → R (List D)} (h : PE X (.Call (.Name x p) (e :: es) [] pos) (tCB r (tA X.K RX W f))) (hv : VOpN X.K r g) : DE X RX W (.Call (.Name x p) (e :: es) [] pos) (fOpN g f) :=
  pe_imp h fun σ H Q q => e_opN hv q
theorem dv_callB {x : Str} {p : Pos} {e : Expr} {es : List Expr} {r : List V → Hp → VK → Prop} {g : List D → Option D} {f : Ev → Option (List D)} (h : PE X (.Call (.Name x p) (e :: es) [] pos) (tCB r (tAV X.K f))) (hv : VOpN X.K r g) : DV X (.Call (.Name x p) (e :: es) [] pos) (vOpN g f) :=
  pe_imp h fun σ H Q q => v_opN hv q
theorem dw_and1 {f : Ev → R Bool} (h : DT X RX W a f) : DW X RX W (.BoolOp .And [a] pos) f := pw_and1 h
theorem dw_or1 {f : Ev → R Bool} (h : DT X RX W a f) : DW X RX W (.BoolOp .Or [a] pos) f := pw_or1 h
theorem dw_and {rest : List Expr} {f g : Ev → R Bool} (h : DT X RX W a f) (k : DW X RX W (.BoolOp .And (b :: rest) pos) g) : DW X RX W (.BoolOp .And (a :: b :: rest) pos) (fAnd f g) := by
  refine pw_imp (pw_and h k) fun σ H Q q => ?_
  obtain ⟨P, ρ, FE, S, q⟩ := q
  refine ⟨P, ρ, FE, S, ?_⟩
  unfold fAnd at q
  cases e : f ρ with
  | ok d ρ1 =>
    simp only [e, R.bind] at q
    intro P1 H1 FE1 S1 t1
    cases d with
    | false => simp only [if_neg Bool.false_ne_true] at q ⊢; exact q P1 H1 FE1 S1 t1
    | true =>
      simp only [if_pos] at q ⊢
      refine ⟨P1, ρ1, FE1, S1, ?_⟩
      cases e2 : g ρ1 with
      | ok b ρ2 => simp only [e2] at q; exact fun P2 H2 FE2 S2 t2 => q P2 H2 FE2 S2 (t1.trans t2)
      | exc x ρ2 => simp only [e2] at q; exact fun cls dx P2 H2 FE2 S2 t2 r => q cls dx P2 H2 FE2 S2 (t1.trans t2) r
      | stk => simp only [e2] at q
  | exc x ρ1 => simp only [e, R.bind] at q; exact q
  | stk => simp only [e, R.bind] at q
theorem dw_or {rest : List Expr} {f g : Ev → R Bool} (h : DT X RX W a f) (k : DW X RX W (.BoolOp .Or (b :: rest) pos) g) : DW X RX W (.BoolOp .Or (a :: b :: rest) pos) (fOr f g) := by
  refine pw_imp (pw_or h k) fun σ H Q q => ?_
  obtain ⟨P, ρ, FE, S, q⟩ := q
  refine ⟨P, ρ, FE, S, ?_⟩
  unfold fOr at q
  cases e : f ρ with
  | ok d ρ1 =>
    simp only [e, R.bind] at q
    intro P1 H1 FE1 S1 t1
    cases d with
    | true => simp only [if_pos] at q ⊢; exact q P1 H1 FE1 S1 t1
    | false =>
      simp only [if_neg Bool.false_ne_true] at q ⊢
      refine ⟨P1, ρ1, FE1, S1, ?_⟩
      cases e2 : g ρ1 with
      | ok b ρ2 => simp only [e2] at q; exact fun P2 H2 FE2 S2 t2 => q P2 H2 FE2 S2 (t1.trans t2)
      | exc x ρ2 => simp only [e2] at q; exact fun cls dx P2 H2 FE2 S2 t2 r => q cls dx P2 H2 FE2 S2 (t1.trans t2) r
      | stk => simp only [e2] at q
  | exc x ρ1 => simp only [e, R.bind] at q; exact q
  | stk => simp only [e, R.bind] at q
theorem dt_not {f : Ev → R Bool} (h : DT X RX W a f) : DT X RX W (.UnaryOp .Not a pos) (fNot f) := by
  refine pt_imp (pt_not h) fun σ H Q q => ?_
  obtain ⟨P, ρ, FE, S, q⟩ := q
  refine ⟨P, ρ, FE, S, ?_⟩
  unfold fNot at q
  cases e : f ρ with
  | ok d ρ1 => simp only [e, R.bind] at q; exact q
  | exc x ρ1 => simp only [e, R.bind] at q; exact q
  | stk => simp only [e, R.bind] at q
theorem de_one {op} {f : Ev → R D} (h : DE X RX W a f) : DE X RX W (.BoolOp op [a] pos) f := pe_one h
theorem de_and {rest : List Expr} {f g : Ev → R D} (h : DE X RX W a f) (k : DE X RX W (.BoolOp .And (b :: rest) pos) g) : DE X RX W (.BoolOp .And (a :: b :: rest) pos) (fAndD f g) := by
  refine pe_imp (pe_and h k) fun σ H Q q => ?_
  obtain ⟨P, ρ, FE, S, q⟩ := q
  refine ⟨P, ρ, FE, S, ?_⟩
  unfold fAndD at q
  cases e : f ρ with
  | ok d ρ1 =>
    simp only [e, R.bind] at q
    intro v P1 H1 FE1 F1 S1 T1 t1
    cases d with
    | bl c =>
      refine ⟨c, rl_bl T1.rl, ?_⟩
      cases c with
      | false => simp only [if_neg Bool.false_ne_true] at q ⊢; exact q _ P1 H1 FE1 E_ S1 ⟨.bl, fun b z => z.elim⟩ (t1.less'.less fun b z => z.elim id False.elim)
      | true =>
        simp only [if_pos] at q ⊢
        refine ⟨P1, ρ1, FE1, S1, ?_⟩
        cases e2 : g ρ1 with
        | ok b ρ2 => simp only [e2] at q; exact fun w P2 H2 FE2 F2 S2 T2 t2 => q w P2 H2 FE2 F2 S2 T2 (t1.less'.trans t2)
        | exc x ρ2 => simp only [e2] at q; exact fun cls dx P2 H2 FE2 S2 t2 r => q cls dx P2 H2 FE2 S2 (t1.less'.trans t2) r
        | stk => simp only [e2] at q
    | _ => simp only at q
  | exc x ρ1 => simp only [e, R.bind] at q; exact q
  | stk => simp only [e, R.bind] at q
theorem de_not {f : Ev → R D} (h : DE X RX W a f) : DE X RX W (.UnaryOp .Not a pos) (fNotD f) := by
  refine pe_imp (pe_not h) fun σ H Q q => ?_
  obtain ⟨P, ρ, FE, S, q⟩ := q
  refine ⟨P, ρ, FE, S, ?_⟩
  unfold fNotD at q
  cases e : f ρ with
  | ok d ρ1 =>
    simp only [e, R.bind] at q
    intro v P1 H1 FE1 F1 S1 T1 t1
    cases d with
    | bl c => exact ⟨c, rl_bl T1.rl, q _ P1 H1 FE1 E_ S1 ⟨.bl, fun b z => z.elim⟩ (t1.less'.less fun b z => z.elim id False.elim)⟩
    | _ => simp only at q
  | exc x ρ1 => simp only [e, R.bind] at q; exact q
  | stk => simp only [e, R.bind] at q
end
end Hap
namespace Hap
open PySem PySem.Spec PyProof.Rows L2
variable [TabC]
def gI2 (f : Int → Int → Int) (d e : D) : Option D := match d, e with
  | .int i, .int j => some (.int (f i j))
  | _, _ => none
def gC2 (C : Int → Int → Prop) [∀ i j, Decidable (C i j)] (f : Int → Int → Int) (d e : D) : Option D := match d, e with
  | .int i, .int j => if C i j then some (.int (f i j)) else none
  | _, _ => none
def CDivX (_ j : Int) : Prop := j ≠ 0 ∧ j.natAbs < 18446744073709551616
instance (i j : Int) : Decidable (CDivX i j) := by unfold CDivX; infer_instance
theorem op_fdivX {X : Cx} : OpR X (binaryOp .FloorDiv) (rI CDivX fun i j => .int (i.fdiv j)) := opI fun _ j _ _ _ _ _ hc q => by
  have h : j.natAbs.log2 < 9000 := Nat.lt_of_lt_of_le (PySem.Flt.log2_lt_of (k := 64) (by decide) hc.2) (by decide)
  exact floordiv_int hc.1 q (.inl (PyProof.noPylong_of_log2 h))
instance (i j : Int) : Decidable (CPow i j) := by unfold CPow; infer_instance
instance (i j : Int) : Decidable (CMul i j) := by unfold CMul; infer_instance
section
variable {K : PySem.W.Frag}
theorem vI2 {f : Int → Int → Int} : VOp2 K (rI0 fun i j => .int (f i j)) (gI2 f) := by
  intro P H d e v w x Q pin r1 r2 g h
  cases r1 <;> cases r2 <;> cases g
  exact ⟨_, _, rfl, rfl, h _ P H E_ New.refl .int⟩
theorem vC2 {C : Int → Int → Prop} [∀ i j, Decidable (C i j)] {f : Int → Int → Int} : VOp2 K (rI C fun i j => .int (f i j)) (gC2 C f) := by
  intro P H d e v w x Q pin r1 r2 g h
  cases r1 <;> cases r2 <;> simp only [gC2] at g <;> try cases g
  rename_i i j
  by_cases c : C i j
  · rw [if_pos c] at g; cases g
    exact ⟨_, _, rfl, rfl, c, h _ P H E_ New.refl .int⟩
  · rw [if_neg c] at g; cases g
def gU1 (f : Int → Int) (d : D) : Option D := match d with
  | .int i => some (.int (f i))
  | _ => none
theorem vU1 {f : Int → Int} : VOp1 K (rU fun i => .int (f i)) (gU1 f) := by
  intro P H d v x Q pin r1 g h
  cases r1 <;> cases g
  exact ⟨_, rfl, h _ P H E_ New.refl .int⟩
/-- the lists' items, none of one's own -/
theorem lst_read {z : Bool} {P : AS} {H : Hp} {o : Bool} {ds : List D} {v : V} {F : AS} (r : Rl z K P H (.lst o ds) v F) : ∃ p vs, v = .ref p ∧ H p = some (.lst vs) ∧ Rls false K P H ds vs E_ := by
  cases r with
  | lstO e f s rs => exact ⟨_, _, rfl, e, rls_view rs⟩
  | lstI e p i rs => exact ⟨_, _, rfl, e, rls_view rs⟩
theorem new_lst {P : AS} {H : Hp} {p : Addr} {ds : List D} {vs : List V} (hp : H p = none) (pin : ∀ b, P b → H b ≠ none) (i : isImms ds = true) (rs : Rls false K P H ds vs E_) :
    New P H P (upd H p (.lst vs)) (fun b => b = p) ∧ Rl true K P (upd H p (.lst vs)) (.lst true ds) (.ref p) (fun b => b = p) :=
  ⟨New.lst hp pin, .lstO (F' := E_) upd_same (fun _ => rfl) (fun b z => z.elim) (rls_mono (z := true) (F := E_) (rls_imm rs i) (fun _ q => q) (fun b o e _ _ => by rw [upd_ne (ne_of_none e hp)]; exact e) fun _ z => z)⟩
theorem rls_app {z : Bool} {P : AS} {H : Hp} {es : List D} {ws : List V} : ∀ {ds : List D} {vs : List V}, Rls z K P H ds vs E_ → Rls z K P H es ws E_ → Rls z K P H (ds ++ es) (vs ++ ws) E_
  | _, _, .nil, r => r
  | _, _, .cons a b s1 s2 dj, r => .cons (F1 := E_) (F2 := E_) (rl_mono a (fun _ q => q) (fun _ _ e _ _ => e) s1) (rls_app (rls_mono b (fun _ q => q) (fun _ _ e _ _ => e) s2) r) (fun _ q => q) (fun _ q => q) fun _ q => q.elim
theorem isImms_app : ∀ {ds es : List D}, isImms ds = true → isImms es = true → isImms (ds ++ es) = true
  | [], _, _, h => h
  | _ :: _, _, h, k => by
    simp only [isImms, Bool.and_eq_true, List.cons_append] at h ⊢
    exact ⟨h.1, isImms_app h.2 k⟩
def gAdd (d e : D) : Option D := match d, e with
  | .int i, .int j => some (.int (i + j))
  | .str x, .str y => if x.length + y.length ≤ sizeLine then some (.str (x ++ y)) else none
  | .lst _ xs, .lst _ ys => if (isImms xs = true ∧ isImms ys = true) ∧ xs.length + ys.length ≤ sizeLine then some (.lst true (xs ++ ys)) else none
  | _, _ => none
abbrev rAddU : R2 := fun x y H Q => (∃ i j, x = .int i ∧ y = .int j ∧ Q (.int (i + j)) H) ∨ (∃ i j, x = .str i ∧ y = .str j ∧ i.length + j.length ≤ sizeLine ∧ Q (.str (i ++ j)) H) ∨ rCat x y H Q
theorem op_addU {X : Cx} : OpR X (binaryOp .Add) rAddU := op_add.or (op_add_str.or op_cat)
theorem vAdd : VOp2 K rAddU gAdd := by
  intro P H d e v w x Q pin r1 r2 g h
  cases d <;> cases e <;> simp only [gAdd] at g <;> try (cases g; done)
  · cases g
    rw [rl_int r1, rl_int r2]
    exact .inl ⟨_, _, rfl, rfl, h _ P H E_ New.refl .int⟩
  · rename_i i j
    by_cases c : i.length + j.length ≤ sizeLine
    · rw [if_pos c] at g; cases g
      rw [rl_str r1, rl_str r2]
      exact .inr (.inl ⟨_, _, rfl, rfl, c, h _ P H E_ New.refl .str⟩)
    · rw [if_neg c] at g; cases g
  · rename_i o xs o' ys
    by_cases c : (isImms xs = true ∧ isImms ys = true) ∧ xs.length + ys.length ≤ sizeLine
    · rw [if_pos c] at g; cases g
      obtain ⟨p, vs, rfl, e1, rs1⟩ := lst_read r1
      obtain ⟨q, ws, rfl, e2, rs2⟩ := lst_read r2
      refine .inr (.inr ⟨p, q, vs, ws, rfl, rfl, e1, e2, by rw [← rls_len rs1, ← rls_len rs2]; exact c.2, fun a ha => ?_⟩)
      obtain ⟨n, r⟩ := new_lst ha pin (isImms_app c.1.1 c.1.2) (rls_app rs1 rs2)
      exact h _ _ _ _ n r
    · rw [if_neg c] at g; cases g
def gSub := gI2 fun i j => i - j
def gMul := gC2 CMul fun i j => i * j
def gFdiv := gC2 CDivX Int.fdiv
def gMod := gC2 (fun _ j => j ≠ 0) Int.fmod
def gPow := gC2 CPow fun i j => i ^ j.toNat
def gShl := gC2 CPow fun i j => i * 2 ^ j.toNat
def gShr := gC2 (fun _ j => 0 ≤ j) fun i j => i / 2 ^ j.toNat
def gBand := gI2 Builtin.bitAnd
def gBor := gI2 Builtin.bitOr
theorem vSub : VOp2 K (rI0 fun i j => .int (i - j)) gSub := vI2
theorem vMul : VOp2 K (rI CMul fun i j => .int (i * j)) gMul := vC2
theorem vFdiv : VOp2 K (rI CDivX fun i j => .int (i.fdiv j)) gFdiv := vC2
theorem vMod : VOp2 K (rI (fun _ j => j ≠ 0) fun i j => .int (i.fmod j)) gMod := vC2
theorem vPow : VOp2 K (rI CPow fun i j => .int (i ^ j.toNat)) gPow := vC2
theorem vShl : VOp2 K (rI CPow fun i j => .int (i * 2 ^ j.toNat)) gShl := vC2
theorem vShr : VOp2 K (rI (fun _ j => 0 ≤ j) fun i j => .int (i / 2 ^ j.toNat)) gShr := vC2
theorem vBand : VOp2 K (rI0 fun i j => .int (Builtin.bitAnd i j)) gBand := vI2
theorem vBor : VOp2 K (rI0 fun i j => .int (Builtin.bitOr i j)) gBor := vI2
def gNeg := gU1 fun i => -i
theorem vNeg : VOp1 K (rU fun i => .int (-i)) gNeg := vU1
def gCmp (p : Int → Int → Bool) (q : List Nat → List Nat → Bool) (d e : D) : Option D := match d, e with
  | .int i, .int j => some (.bl (p i j))
  | .str x, .str y => some (.bl (q x.cps.toList y.cps.toList))
  | _, _ => none
abbrev rCmp (p : Int → Int → Bool) (q : List Nat → List Nat → Bool) : R2 := fun x y H Q => (∃ i j, x = .int i ∧ y = .int j ∧ Q (.bl (p i j)) H) ∨ (∃ i j, x = .str i ∧ y = .str j ∧ Q (.bl (q i.cps.toList j.cps.toList)) H)
theorem vCmp {p : Int → Int → Bool} {q : List Nat → List Nat → Bool} : VOp2 K (rCmp p q) (gCmp p q) := by
  intro P H d e v w x Q pin r1 r2 g h
  cases d <;> cases e <;> simp only [gCmp] at g <;> try (cases g; done)
  · cases g
    rw [rl_int r1, rl_int r2]
    exact .inl ⟨_, _, rfl, rfl, h _ P H E_ New.refl .bl⟩
  · cases g
    rw [rl_str r1, rl_str r2]
    exact .inr ⟨_, _, rfl, rfl, h _ P H E_ New.refl .bl⟩
def gLt := gCmp (fun i j => decide (i < j)) fun x y => decide (x < y)
def gLe := gCmp (fun i j => decide (i ≤ j)) fun x y => !decide (y < x)
def gGt := gCmp (fun i j => decide (j < i)) fun x y => decide (y < x)
def gGe := gCmp (fun i j => decide (j ≤ i)) fun x y => !decide (x < y)
theorem op_ltU {X : Cx} : OpR X (compareOp .Lt) (rCmp (fun i j => decide (i < j)) fun x y => decide (x < y)) := op_lt.or op_lt_str
theorem op_leU {X : Cx} : OpR X (compareOp .LtE) (rCmp (fun i j => decide (i ≤ j)) fun x y => !decide (y < x)) := op_le.or op_le_str
theorem op_gtU {X : Cx} : OpR X (compareOp .Gt) (rCmp (fun i j => decide (j < i)) fun x y => decide (y < x)) := op_gt.or op_gt_str
theorem op_geU {X : Cx} : OpR X (compareOp .GtE) (rCmp (fun i j => decide (j ≤ i)) fun x y => !decide (x < y)) := op_ge.or op_ge_str
theorem vLt : VOp2 K (rCmp (fun i j => decide (i < j)) fun x y => decide (x < y)) gLt := vCmp
theorem vLe : VOp2 K (rCmp (fun i j => decide (i ≤ j)) fun x y => !decide (y < x)) gLe := vCmp
theorem vGt : VOp2 K (rCmp (fun i j => decide (j < i)) fun x y => decide (y < x)) gGt := vCmp
theorem vGe : VOp2 K (rCmp (fun i j => decide (j ≤ i)) fun x y => !decide (x < y)) gGe := vCmp
mutual
def toPy : D → PyData
  | .non => .none
  | .bl b => .bool b
  | .int i => .int i
  | .str x => .str x
  | .lst _ xs => .list (toPys xs)
  | .rol xs => .list (toPys xs)
  | .tup xs => .tuple (toPys xs)
  | .dct _ _ _ => .dict []
  | .dcT _ _ _ => .dict []
  | .dcN _ _ _ => .dict []
  | .clo _ _ => .dict []
  | .any => .dict []
  | .gv _ => .dict []
  | .xn _ _ _ => .dict []
  | .obj _ _ _ _ => .dict []
def toPys : List D → List PyData
  | [] => []
  | d :: ds => toPy d :: toPys ds
end
mutual
theorem dp_of {P : AS} {H : Hp} {z : Bool} {d : D} {v : V} {F : AS} (h : Rl z K P H d v F) (s : (toPy d).canLay0 = true) : Dp K H v (toPy d) := by
  cases h with
  | non => exact .non
  | bl => exact .bl _
  | int => exact .int _
  | str => exact .str _
  | lstO e f s' r => exact .lst (.inl (.inl e)) (dps_of r (by simpa only [toPy, PyData.canLay0] using s))
  | lstI e p i r => exact .lst (.inl (.inl e)) (dps_of r (by simpa only [toPy, PyData.canLay0] using s))
  | tup e p r => exact .tup (.inl (.inl e)) (dps_of r (by simpa only [toPy, PyData.canLay0] using s))
  | rol e i r => exact .lst (rol_sql e) (dps_of r (by simpa only [toPy, PyData.canLay0] using s))
  | dctO => simp [toPy, PyData.canLay0] at s
  | dctI => simp [toPy, PyData.canLay0] at s
  | dcTO => simp [toPy, PyData.canLay0] at s
  | dcTI => simp [toPy, PyData.canLay0] at s
  | dcNO => simp [toPy, PyData.canLay0] at s
  | dcNI => simp [toPy, PyData.canLay0] at s
  | clo => simp [toPy, PyData.canLay0] at s
  | any => simp [toPy, PyData.canLay0] at s
  | gv => simp [toPy, PyData.canLay0] at s
  | xn => simp [toPy, PyData.canLay0] at s
  | objO => simp [toPy, PyData.canLay0] at s
  | objI => simp [toPy, PyData.canLay0] at s
theorem dps_of {P : AS} {H : Hp} {z : Bool} {ds : List D} {vs : List V} {F : AS} (h : Rls z K P H ds vs F) (s : PyData.canLayAll0 (toPys ds) = true) : DpAll K H vs (toPys ds) := by
  cases h with
  | nil => exact .nil
  | cons r rs _ _ _ =>
    simp only [toPys, PyData.canLayAll0, Bool.and_eq_true] at s
    exact .cons (dp_of r s.1) (dps_of rs s.2)
end
def gEq (d e : D) : Option D := match d, e with
  | .int i, .int j => some (.bl (decide (i = j)))
  | .bl i, .bl j => some (.bl (decide (i = j)))
  | .str i, .str j => some (.bl (decide (i = j)))
  | _, _ => if SeqAt.shaped (toPy d) = true ∧ SeqAt.shaped (toPy e) = true then some (.bl (PyData.eqv (toPy d) (toPy e))) else none
def gNe (d e : D) : Option D := match gEq d e with
  | some (.bl b) => some (.bl (!b))
  | _ => none
abbrev rEqU (K : PySem.W.Frag) : R2 := fun x y H Q => rEq x y H Q ∨ rEqD K x y H Q
abbrev rNeU (K : PySem.W.Frag) : R2 := fun x y H Q => rNe x y H Q ∨ rNeD K x y H Q
theorem op_eqU {X : Cx} (hu : X.A.units + 64 < cLine) : OpR X (compareOp .Eq) (rEqU X.K) := op_eq.or (op_eqD hu)
theorem op_neU {X : Cx} (hu : X.A.units + 64 < cLine) : OpR X (compareOp .NotEq) (rNeU X.K) := op_ne.or (op_neD hu)
theorem shaped_lay {d : PyData} (h : SeqAt.shaped d = true) : d.canLay0 = true := SeqAt.canLay_of_shaped h
/-- == by cases: two scalars of one kind, or data -/
theorem gEq_cases {d e x : D} (g : gEq d e = some x) : (∃ i j, d = .int i ∧ e = .int j ∧ x = .bl (decide (i = j))) ∨ (∃ i j, d = .bl i ∧ e = .bl j ∧ x = .bl (decide (i = j))) ∨ (∃ i j, d = .str i ∧ e = .str j ∧ x = .bl (decide (i = j))) ∨
    (SeqAt.shaped (toPy d) = true ∧ SeqAt.shaped (toPy e) = true ∧ x = .bl (PyData.eqv (toPy d) (toPy e))) := by
  unfold gEq at g
  split at g
  · cases g; exact .inl ⟨_, _, rfl, rfl, rfl⟩
  · cases g; exact .inr (.inl ⟨_, _, rfl, rfl, rfl⟩)
  · cases g; exact .inr (.inr (.inl ⟨_, _, rfl, rfl, rfl⟩))
  · by_cases c : SeqAt.shaped (toPy d) = true ∧ SeqAt.shaped (toPy e) = true
    · rw [if_pos c] at g; cases g
      exact .inr (.inr (.inr ⟨c.1, c.2, rfl⟩))
    · rw [if_neg c] at g; cases g
theorem vEq : VOp2 K (rEqU K) gEq := by
  intro P H d e v w x Q pin r1 r2 g h
  rcases gEq_cases g with ⟨i, j, rfl, rfl, rfl⟩ | ⟨i, j, rfl, rfl, rfl⟩ | ⟨i, j, rfl, rfl, rfl⟩ | ⟨s1, s2, rfl⟩
  · rw [rl_int r1, rl_int r2]
    refine .inl ⟨rfl, ?_⟩
    rw [show decide (V.int i = V.int j) = decide (i = j) from by simp]
    exact h _ P H E_ New.refl .bl
  · rw [rl_bl r1, rl_bl r2]
    refine .inl ⟨rfl, ?_⟩
    rw [show decide (V.bl i = V.bl j) = decide (i = j) from by simp]
    exact h _ P H E_ New.refl .bl
  · rw [rl_str r1, rl_str r2]
    refine .inl ⟨rfl, ?_⟩
    rw [show decide (V.str i = V.str j) = decide (i = j) from by simp]
    exact h _ P H E_ New.refl .bl
  · exact .inr ⟨_, _, dp_of r1 (shaped_lay s1), dp_of r2 (shaped_lay s2), s1, s2, h _ P H E_ New.refl .bl⟩
theorem vNe : VOp2 K (rNeU K) gNe := by
  intro P H d e v w x Q pin r1 r2 g h
  unfold gNe at g
  split at g
  · rename_i b gb
    cases g
    rcases gEq_cases gb with ⟨i, j, rfl, rfl, q⟩ | ⟨i, j, rfl, rfl, q⟩ | ⟨i, j, rfl, rfl, q⟩ | ⟨s1, s2, q⟩
    · cases q
      rw [rl_int r1, rl_int r2]
      refine .inl ⟨rfl, ?_⟩
      rw [show decide (V.int i = V.int j) = decide (i = j) from by simp]
      exact h _ P H E_ New.refl .bl
    · cases q
      rw [rl_bl r1, rl_bl r2]
      refine .inl ⟨rfl, ?_⟩
      rw [show decide (V.bl i = V.bl j) = decide (i = j) from by simp]
      exact h _ P H E_ New.refl .bl
    · cases q
      rw [rl_str r1, rl_str r2]
      refine .inl ⟨rfl, ?_⟩
      rw [show decide (V.str i = V.str j) = decide (i = j) from by simp]
      exact h _ P H E_ New.refl .bl
    · cases q
      exact .inr ⟨_, _, dp_of r1 (shaped_lay s1), dp_of r2 (shaped_lay s2), s1, s2, h _ P H E_ New.refl .bl⟩
  · cases g
end
end Hap
namespace Hap
open PySem PySem.Spec PyProof.Rows L2
variable [TabC]
section
variable {κ : Type} [DecidableEq κ]
def memK (k : κ) (ks : List κ) : Bool := decide (k ∈ ks)
def getK : List κ → List D → κ → Option D
  | k' :: ks, d :: ds, k => if k' = k then some d else getK ks ds k
  | _, _, _ => none
def replK : List κ → List D → κ → D → List D
  | k' :: ks, x :: xs, k, d => (if k' = k then d else x) :: replK ks xs k d
  | _, _, _, _ => []
/-- in its place, or at the end -/
def putKs (ks : List κ) (xs : List D) (k : κ) (d : D) : List κ × List D := if k ∈ ks then (ks, replK ks xs k d) else (ks ++ [k], xs ++ [d])
variable {K : PySem.W.Frag} {P : AS} {H : Hp} {z : Bool}
theorem getK_some : ∀ {ks : List κ} {ds : List D} {vs : List V} {F : AS} {k : κ} {d : D}, Rls z K P H ds vs F → ks.length = vs.length → getK ks ds k = some d → ∃ v, valV (ks.zip vs) k = some v ∧ Rl z K P H d v F
  | [], _, _, _, _, _, _, _, e => by simp [getK] at e
  | _ :: _, _, _, _, _, _, .nil, l, _ => by simp at l
  | k' :: ks, _, _, F, k, d, .cons (v := v) r rs s1 s2 _, l, e => by
    simp only [getK] at e
    by_cases h : k' = k
    · rw [if_pos h] at e; cases e
      exact ⟨v, valV_pos (p := (k', v)) h, rl_mono r (fun _ q => q) (fun _ _ e _ _ => e) s1⟩
    · rw [if_neg h] at e
      obtain ⟨w, h1, h2⟩ := getK_some rs (by simpa using l) e
      exact ⟨w, (valV_neg (p := (k', v)) h).trans h1, rl_mono h2 (fun _ q => q) (fun _ _ e _ _ => e) s2⟩
theorem getK_none : ∀ {ks : List κ} {ds : List D} {vs : List V} {F : AS} {k : κ}, Rls z K P H ds vs F → ks.length = vs.length → getK ks ds k = none → valV (ks.zip vs) k = none
  | [], _, _, _, _, _, _, _ => rfl
  | _ :: _, _, _, _, _, .nil, l, _ => by simp at l
  | k' :: ks, _, _, F, k, .cons (v := v) r rs s1 s2 _, l, e => by
    simp only [getK] at e
    by_cases h : k' = k
    · rw [if_pos h] at e; cases e
    · rw [if_neg h] at e
      exact (valV_neg (p := (k', v)) h).trans (getK_none rs (by simpa using l) e)
theorem getK_mem : ∀ {ks : List κ} {ds : List D} {k : κ}, ks.length = ds.length → (getK ks ds k).isSome = decide (k ∈ ks)
  | [], _, _, _ => by simp [getK]
  | _ :: _, [], _, l => by simp at l
  | k' :: ks, d :: ds, k, l => by
    simp only [getK]
    by_cases h : k' = k
    · rw [if_pos h]; simp [h]
    · rw [if_neg h, getK_mem (ks := ks) (ds := ds) (k := k) (by simpa using l)]
      have h' : ¬ k = k' := fun e => h e.symm
      simp [h']
theorem valV_isSome {ks : List κ} {ds : List D} {vs : List V} {F : AS} {k : κ} (r : Rls z K P H ds vs F) (l : ks.length = vs.length) : (valV (ks.zip vs) k).isSome = decide (k ∈ ks) := by
  rw [← getK_mem (ds := ds) (by rw [l, rls_len r])]
  cases e : getK ks ds k with
  | none => rw [getK_none r l e]; rfl
  | some d => obtain ⟨v, h, _⟩ := getK_some r l e; rw [h]; rfl
theorem zip_any {k : κ} : ∀ {ks : List κ} {vs : List V}, ks.length = vs.length → ((ks.zip vs).any fun kv => decide (kv.1 = k)) = decide (k ∈ ks)
  | [], _, _ => by simp
  | _ :: _, [], l => by simp at l
  | k' :: ks, v :: vs, l => by
    rw [List.zip_cons_cons, List.any_cons, zip_any (by simpa using l)]
    by_cases h : k' = k
    · simp [h]
    · have h' : ¬ k = k' := fun e => h e.symm
      simp [h, h']
/-- the values behind a store -/
def replV : List κ → List V → κ → V → List V
  | k' :: ks, x :: xs, k, d => (if k' = k then d else x) :: replV ks xs k d
  | _, _, _, _ => []
theorem repl_zip {k : κ} {v : V} : ∀ {ks : List κ} {vs : List V}, (ks.zip vs).map (fun kv => if kv.1 = k then (kv.1, v) else kv) = ks.zip (replV ks vs k v)
  | [], _ => rfl
  | _ :: _, [] => rfl
  | k' :: ks, w :: vs => by
    rw [List.zip_cons_cons, List.map_cons, repl_zip]
    simp only [replV, List.zip_cons_cons]
    congr 1
    by_cases h : k' = k
    · simp [h]
    · simp [h]
theorem replV_len {k : κ} {v : V} : ∀ {ks : List κ} {vs : List V}, ks.length = vs.length → (replV ks vs k v).length = vs.length
  | [], [], _ => rfl
  | [], _ :: _, l => by simp at l
  | _ :: _, [], l => by simp at l
  | _ :: ks, _ :: vs, l => congrArg (· + 1) (replV_len (ks := ks) (vs := vs) (by simpa using l))
theorem repl_rls {k : κ} {d : D} {v : V} : ∀ {ks : List κ} {ds : List D} {vs : List V} {F1 : AS}, Rls z K P H ds vs F1 → isImm d = true → Rl z K P H d v E_ → ks.length = vs.length → Rls z K P H (replK ks ds k d) (replV ks vs k v) F1
  | [], _, _, _, .nil, _, _, _ => .nil
  | [], _, _, _, .cons .., _, _, l => by simp at l
  | _ :: _, _, _, _, .nil, _, _, l => by simp at l
  | k' :: ks, _, _, F, .cons (F1 := G1) (F2 := G2) r rs s1 s2 dj, i, q, l => by
    simp only [replK, replV]
    refine .cons (F1 := G1) (F2 := G2) ?_ (repl_rls rs i q (by simpa using l)) s1 s2 dj
    by_cases h : k' = k
    · rw [if_pos h, if_pos h]; exact rl_imm q i
    · rw [if_neg h, if_neg h]; exact r
/-- d[k] = v, the value given up -/
theorem put_ok {k : κ} {d : D} {v : V} {ks : List κ} {ds : List D} {vs : List V} {F1 : AS} (r : Rls z K P H ds vs F1) (i : isImm d = true) (q : Rl z K P H d v E_) (l : ks.length = vs.length) :
    ∃ vs', putK (ks.zip vs) k v = (putKs ks ds k d).1.zip vs' ∧ (putKs ks ds k d).1.length = vs'.length ∧ Rls z K P H (putKs ks ds k d).2 vs' F1 := by
  unfold putK putKs
  rw [zip_any l]
  by_cases h : k ∈ ks
  · rw [if_pos (decide_eq_true h), if_pos h]
    exact ⟨replV ks vs k v, repl_zip, (replV_len l ▸ l), repl_rls r i q l⟩
  · rw [if_neg (by simpa using h), if_neg h]
    refine ⟨vs ++ [v], ?_, by simpa using l, ?_⟩
    · rw [List.zip_append l]; rfl
    · exact rls_snoc (F1 := F1) (F2 := E_) r q (fun _ z => z) (fun _ z => z.elim) fun _ _ z => z
end
def keyOf (d : D) : Option Key := match d with
  | .int i => some (.inl i)
  | .str x => some (.inr x)
  | _ => none
def keysOf : List D → Option (List Key)
  | [] => some []
  | d :: ds => match keyOf d, keysOf ds with
    | some k, some ks => some (k :: ks)
    | _, _ => none
theorem keyOf_rl {K : PySem.W.Frag} {P : AS} {H : Hp} {z : Bool} {d : D} {v : V} {F : AS} {k : Key} (r : Rl z K P H d v F) (h : keyOf d = some k) : v = kV k := by
  cases r <;> cases h <;> rfl
theorem keysOf_rls {K : PySem.W.Frag} {P : AS} {H : Hp} {z : Bool} : ∀ {ds : List D} {vs : List V} {F : AS} {ks : List Key}, Rls z K P H ds vs F → keysOf ds = some ks → vs = ks.map kV
  | _, _, _, _, .nil, h => by cases h; rfl
  | _, _, _, _, .cons (d := d) (ds := ds) r rs _ _ _, h => by
    simp only [keysOf] at h
    cases e1 : keyOf d with
    | none => simp [e1] at h
    | some k =>
      cases e2 : keysOf ds with
      | none => simp [e1, e2] at h
      | some ks =>
        simp only [e1, e2] at h; cases h
        rw [keyOf_rl r e1, keysOf_rls rs e2]; rfl
def flatD (d : D) : Bool := match d with
  | .non => true
  | .bl _ => true
  | .int _ => true
  | .str _ => true
  | _ => false
def toV (d : D) : V := match d with
  | .bl b => .bl b
  | .int i => .int i
  | .str x => .str x
  | _ => .non
theorem flat_rl {K : PySem.W.Frag} {P : AS} {H : Hp} {z : Bool} {d : D} {v : V} {F : AS} (r : Rl z K P H d v F) (h : flatD d = true) : v = toV d ∧ flatV v = true := by
  cases r <;> first | exact ⟨rfl, rfl⟩ | cases h
theorem flats_rls {K : PySem.W.Frag} {P : AS} {H : Hp} {z : Bool} : ∀ {ds : List D} {vs : List V} {F : AS}, Rls z K P H ds vs F → ds.all flatD = true → vs = ds.map toV ∧ vs.all flatV = true
  | _, _, _, .nil, _ => ⟨rfl, rfl⟩
  | _, _, _, .cons r rs _ _ _, h => by
    simp only [List.all_cons, Bool.and_eq_true] at h
    obtain ⟨h1, h2⟩ := flat_rl r h.1
    obtain ⟨h3, h4⟩ := flats_rls rs h.2
    refine ⟨by rw [h1, h3]; rfl, by rw [List.all_cons, h2, h4]; rfl⟩
def gInB (d e : D) : Option Bool := match e with
  | .str z => (match d with
    | .str x => (match x.cps.toList with
      | [c] => some (decide (c ∈ z.cps.toList))
      | _ => none)
    | _ => none)
  | .lst _ xs => if SeqAt.shaped (toPy d) = true ∧ SeqAt.shaped (.list (toPys xs)) = true then some ((toPys xs).any fun z => PyData.eqv z (toPy d)) else none
  | .rol xs => if SeqAt.shaped (toPy d) = true ∧ SeqAt.shaped (.list (toPys xs)) = true then some ((toPys xs).any fun z => PyData.eqv z (toPy d)) else none
  | .tup xs => if flatD d = true ∧ xs.all flatD = true then some (inV (toV d) (xs.map toV)) else none
  | .dct _ ks _ => (keyOf d).map fun k => memK k ks
  | .dcT _ ks _ => (match d with
    | .tup ds => (keysOf ds).map fun k => memK k ks
    | _ => none)
  | _ => none
def gIn (d e : D) : Option D := (gInB d e).map .bl
def gNin (d e : D) : Option D := (gInB d e).map fun b => .bl (!b)
abbrev rDIn (neg : Bool) : R2 := fun y x H Q => ∃ a o, x = .ref a ∧ DGet H a y o ∧ Q (.bl (if neg = true then !o.isSome else o.isSome)) H
abbrev rInU (K : PySem.W.Frag) : R2 := fun x y H Q => (∃ (c : Nat) (z : Str), x = .str ⟨#[c]⟩ ∧ y = .str z ∧ Q (.bl (decide (c ∈ z.cps.toList))) H) ∨ rInD K x y H Q ∨ rIn K false x y H Q ∨ rDIn false x y H Q
abbrev rNinU (K : PySem.W.Frag) : R2 := fun x y H Q => (∃ (c : Nat) (z : Str), x = .str ⟨#[c]⟩ ∧ y = .str z ∧ Q (.bl (!decide (c ∈ z.cps.toList))) H) ∨ rNotInD K x y H Q ∨ rIn K true x y H Q ∨ rDIn true x y H Q
theorem op_dIn {X : Cx} (hu : X.A.units + 1 < cLine) : OpR X (compareOp .In) (rDIn false) := by
  intro pins s σ H x y v u Q I rx ry h
  obtain ⟨a, o, rfl, g, q⟩ := h
  cases ry
  exact d_in hu I g rx fun s3 I3 => ⟨.bl o.isSome, H, I3, rfl, by simpa using q⟩
theorem op_dNin {X : Cx} (hu : X.A.units + 1 < cLine) : OpR X (compareOp .NotIn) (rDIn true) := by
  intro pins s σ H x y v u Q I rx ry h
  obtain ⟨a, o, rfl, g, q⟩ := h
  cases ry
  exact d_notIn hu I g rx fun s3 I3 => ⟨.bl (!o.isSome), H, I3, rfl, by simpa using q⟩
theorem op_inU {X : Cx} (hu : X.A.units + 65 < cLine) : OpR X (compareOp .In) (rInU X.K) := op_in_sign.or ((op_inD hu).or (op_in_seq.or (op_dIn (by omega))))
theorem op_ninU {X : Cx} (hu : X.A.units + 65 < cLine) : OpR X (compareOp .NotIn) (rNinU X.K) := op_notIn_sign.or ((op_notInD hu).or (op_notIn_seq.or (op_dNin (by omega))))
section
variable {K : PySem.W.Frag}
theorem str_one {x : Str} {c : Nat} (h : x.cps.toList = [c]) : x = ⟨#[c]⟩ := by
  obtain ⟨a⟩ := x
  have : a = #[c] := by
    apply Array.ext'
    simpa using h
  rw [this]
/-- what stands behind «in» -/
theorem inB_cases {P : AS} {H : Hp} {d e : D} {v w : V} {b : Bool} (r1 : Rl false K P H d v E_) (r2 : Rl false K P H e w E_) (g : gInB d e = some b) :
    (∃ (c : Nat) (z : Str), v = .str ⟨#[c]⟩ ∧ w = .str z ∧ b = decide (c ∈ z.cps.toList)) ∨
    (∃ d' ds, Dp K H v d' ∧ Dp K H w (.list ds) ∧ SeqAt.shaped d' = true ∧ SeqAt.shaped (.list ds) = true ∧ b = ds.any fun z => PyData.eqv z d') ∨
    (∃ p xs, w = .ref p ∧ (SqL K H p xs ∨ SqT K H p xs) ∧ flatV v = true ∧ xs.all flatV = true ∧ b = inV v xs) ∨ ∃ a o, w = .ref a ∧ DGet H a v o ∧ b = o.isSome := by
  cases r2 with
  | str =>
    simp only [gInB] at g
    cases r1 with
    | str =>
      simp only at g
      split at g
      · rename_i c e
        cases g
        rw [str_one e]
        exact .inl ⟨_, _, rfl, rfl, rfl⟩
      · cases g
    | _ => simp at g
  | lstO e f s r =>
    simp only [gInB] at g
    split at g
    · rename_i c
      cases g
      exact .inr (.inl ⟨_, _, dp_of r1 (shaped_lay c.1), .lst (.inl (.inl e)) (dps_of r (by simpa only [PyData.canLay0] using shaped_lay c.2)), c.1, c.2, rfl⟩)
    · cases g
  | lstI e p i r =>
    simp only [gInB] at g
    split at g
    · rename_i c
      cases g
      exact .inr (.inl ⟨_, _, dp_of r1 (shaped_lay c.1), .lst (.inl (.inl e)) (dps_of r (by simpa only [PyData.canLay0] using shaped_lay c.2)), c.1, c.2, rfl⟩)
    · cases g
  | rol e i r =>
    simp only [gInB] at g
    split at g
    · rename_i c
      cases g
      exact .inr (.inl ⟨_, _, dp_of r1 (shaped_lay c.1), .lst (rol_sql e) (dps_of r (by simpa only [PyData.canLay0] using shaped_lay c.2)), c.1, c.2, rfl⟩)
    · cases g
  | tup e p r =>
    simp only [gInB] at g
    split at g
    · rename_i c
      cases g
      obtain ⟨h1, h2⟩ := flat_rl r1 c.1
      obtain ⟨h3, h4⟩ := flats_rls r c.2
      exact .inr (.inr (.inl ⟨_, _, rfl, .inr (.inl (.inl e)), h2, h4, by rw [h1, h3]⟩))
    · cases g
  | dctO e k l f s r =>
    simp only [gInB] at g
    cases e2 : keyOf d with
    | none => rw [e2] at g; cases g
    | some kk =>
      rw [e2] at g; cases g
      subst k
      rw [keyOf_rl r1 e2]
      exact .inr (.inr (.inr ⟨_, _, rfl, DGet.k e, (valV_isSome r l).symm⟩))
  | dctI e k l p i r =>
    simp only [gInB] at g
    cases e2 : keyOf d with
    | none => rw [e2] at g; cases g
    | some kk =>
      rw [e2] at g; cases g
      subst k
      rw [keyOf_rl r1 e2]
      exact .inr (.inr (.inr ⟨_, _, rfl, DGet.kR e, (valV_isSome r l).symm⟩))
  | dcTO e k l f s r =>
    simp only [gInB] at g
    cases r1 with
    | @tup _ _ ds1 _ e1 p1 rs1 =>
      simp only at g
      cases e2 : keysOf ds1 with
      | none => rw [e2] at g; cases g
      | some kk =>
        rw [e2] at g; cases g
        subst k
        rw [keysOf_rls rs1 e2] at e1
        exact .inr (.inr (.inr ⟨_, _, rfl, DGet.t e e1, (valV_isSome r l).symm⟩))
    | _ => simp at g
  | dcTI e k l p i r =>
    simp only [gInB] at g
    cases r1 with
    | @tup _ _ ds1 _ e1 p1 rs1 =>
      simp only at g
      cases e2 : keysOf ds1 with
      | none => rw [e2] at g; cases g
      | some kk =>
        rw [e2] at g; cases g
        subst k
        rw [keysOf_rls rs1 e2] at e1
        exact .inr (.inr (.inr ⟨_, _, rfl, DGet.tR e e1, (valV_isSome r l).symm⟩))
    | _ => simp at g
  | _ => simp [gInB] at g
theorem vIn : VOp2 K (rInU K) gIn := by
  intro P H d e v w x Q pin r1 r2 g h
  unfold gIn at g
  cases gb : gInB d e with
  | none => rw [gb] at g; cases g
  | some b =>
    rw [gb] at g; cases g
    have h := h _ P H E_ New.refl .bl
    rcases inB_cases r1 r2 gb with ⟨c, z, rfl, rfl, rfl⟩ | ⟨d', ds, h1, h2, h3, h4, rfl⟩ | ⟨p, xs, rfl, h1, h2, h3, rfl⟩ | ⟨a, o, rfl, h1, rfl⟩
    · exact .inl ⟨c, z, rfl, rfl, h⟩
    · exact .inr (.inl ⟨d', ds, h1, h2, h3, h4, h⟩)
    · exact .inr (.inr (.inl ⟨p, xs, rfl, h1, h2, h3, h⟩))
    · exact .inr (.inr (.inr ⟨a, o, rfl, h1, by simpa using h⟩))
theorem vNin : VOp2 K (rNinU K) gNin := by
  intro P H d e v w x Q pin r1 r2 g h
  unfold gNin at g
  cases gb : gInB d e with
  | none => rw [gb] at g; cases g
  | some b =>
    rw [gb] at g; cases g
    have h := h _ P H E_ New.refl .bl
    rcases inB_cases r1 r2 gb with ⟨c, z, rfl, rfl, rfl⟩ | ⟨d', ds, h1, h2, h3, h4, rfl⟩ | ⟨p, xs, rfl, h1, h2, h3, rfl⟩ | ⟨a, o, rfl, h1, rfl⟩
    · exact .inl ⟨c, z, rfl, rfl, h⟩
    · exact .inr (.inl ⟨d', ds, h1, h2, h3, h4, h⟩)
    · exact .inr (.inr (.inl ⟨p, xs, rfl, h1, h2, h3, h⟩))
    · exact .inr (.inr (.inr ⟨a, o, rfl, h1, by simpa using h⟩))
end
end Hap
namespace Hap
open PySem PySem.Spec PyProof.Rows L2
variable [TabC]
def gIs (d e : D) : Option D := match d, e with
  | .bl a, .bl b => some (.bl (decide (a = b)))
  | .non, .non => some (.bl true)
  | _, .non => some (.bl false)
  | _, _ => none
def gIsn (d e : D) : Option D := match gIs d e with
  | some (.bl b) => some (.bl (!b))
  | _ => none
abbrev rIsnU : R2 := fun x y H Q => (∃ a b, x = .bl a ∧ y = .bl b ∧ Q (.bl (!decide (a = b))) H) ∨ (y = .non ∧ Q (.bl (!decide (x = .non))) H)
theorem op_isnU {X : Cx} : OpR X (compareOp .IsNot) rIsnU := op_isnot_bl.or op_notN
def isGv (d : D) : Bool := match d with
  | .gv _ => true
  | .any => true
  | _ => false
section
variable {K : PySem.W.Frag}
theorem non_iff {P : AS} {H : Hp} {d : D} {v : V} (r : Rl false K P H d v E_) (n : isGv d = false) (hd : d ≠ .non) : decide (v = V.non) = false := by
  cases r <;> first | rfl | exact absurd rfl hd | cases n
theorem vIsB {P : AS} {H : Hp} {d e : D} {v w : V} {b : Bool} (r1 : Rl false K P H d v E_) (r2 : Rl false K P H e w E_) (n : isGv d = false) (g : gIs d e = some (.bl b)) :
    (∃ a c, v = .bl a ∧ w = .bl c ∧ b = decide (a = c)) ∨ (w = .non ∧ b = decide (v = .non)) := by
  unfold gIs at g
  split at g
  · cases g
    exact .inl ⟨_, _, rl_bl r1, rl_bl r2, rfl⟩
  · cases g
    rw [rl_non r1, rl_non r2]
    exact .inr ⟨rfl, rfl⟩
  · rename_i h1 h2
    cases g
    refine .inr ⟨rl_non r2, (non_iff r1 n ?_).symm⟩
    intro z
    exact h2 z
  · cases g
def gIsn' (d e : D) : Option D := if isGv d = true then none else gIsn d e
theorem vIsn : VOp2 K rIsnU gIsn' := by
  intro P H d e v w x Q pin r1 r2 g h
  unfold gIsn' at g
  by_cases n : isGv d = true
  · rw [if_pos n] at g; cases g
  · rw [if_neg n] at g
    have n' : isGv d = false := by simpa using n
    unfold gIsn at g
    split at g
    · rename_i b gb
      cases g
      have hq := h (.bl !b) P H E_ New.refl .bl
      rcases vIsB r1 r2 n' gb with ⟨a, c, rfl, rfl, rfl⟩ | ⟨rfl, rfl⟩
      · exact .inl ⟨a, c, rfl, rfl, hq⟩
      · exact .inr ⟨rfl, hq⟩
    · cases g
def gLen (ds : List D) : Option D := match ds with
  | [.str x] => if x.length ≤ sizeLine then some (.int x.length) else none
  | [.lst _ xs] => some (.int xs.length)
  | [.rol xs] => some (.int xs.length)
  | [.tup xs] => some (.int xs.length)
  | [.dct _ ks _] => some (.int ks.length)
  | _ => none
abbrev rLenU (K : PySem.W.Frag) : List V → Hp → VK → Prop := fun xs H Q => (∃ x n, xs = [x] ∧ LenV K x H n ∧ Q (.int n) H) ∨ (∃ a kvs, xs = [V.ref a] ∧ Rd H a (.dK kvs) ∧ Q (.int kvs.length) H)
theorem call_lenDR {X : Cx} : CallR X (.builtin "len") (fun xs H Q => ∃ a kvs, xs = [V.ref a] ∧ Rd H a (.dK kvs) ∧ Q (.int kvs.length) H) := by
  intro pins s σ H xs us Q I r h
  obtain ⟨a, kvs, rfl, ha, q⟩ := h
  obtain ⟨u, rfl, ru⟩ := vals1 r
  cases ru
  exact d_len I ha fun t s' I' => ⟨.int kvs.length, H, I', ⟨t, rfl⟩, q⟩
theorem call_lenU {X : Cx} : CallR X (.builtin "len") (rLenU X.K) := call_len.or call_lenDR
theorem rol_read {P : AS} {H : Hp} {ds : List D} {v : V} {z : Bool} {F : AS} (r : Rl z K P H (.rol ds) v F) : ∃ p vs, v = .ref p ∧ SqL K H p vs ∧ Rls false K P H ds vs E_ := by
  cases r with
  | rol e i rs => exact ⟨_, _, rfl, rol_sql e, rls_view rs⟩
theorem tup_read {P : AS} {H : Hp} {ds : List D} {v : V} {z : Bool} {F : AS} (r : Rl z K P H (.tup ds) v F) : ∃ p vs, v = .ref p ∧ H p = some (.tup vs) ∧ P p ∧ Rls false K P H ds vs E_ := by
  cases r with
  | tup e p rs => exact ⟨_, _, rfl, e, p, rls_view rs⟩
theorem dct_read {P : AS} {H : Hp} {o : Bool} {ks : List Key} {ds : List D} {v : V} {z : Bool} {F : AS} (r : Rl z K P H (.dct o ks ds) v F) : ∃ p vs, v = .ref p ∧ Rd H p (.dK (ks.zip vs)) ∧ ks.length = vs.length ∧ Rls false K P H ds vs E_ := by
  cases r with
  | dctO e k l f s rs => subst k; exact ⟨_, _, rfl, .inl e, l, rls_view rs⟩
  | dctI e k l p i rs => subst k; exact ⟨_, _, rfl, e, l, rls_view rs⟩
theorem dcT_read {P : AS} {H : Hp} {o : Bool} {ks : List (List Key)} {ds : List D} {v : V} {z : Bool} {F : AS} (r : Rl z K P H (.dcT o ks ds) v F) : ∃ p vs, v = .ref p ∧ Rd H p (.dT (ks.zip vs)) ∧ ks.length = vs.length ∧ Rls false K P H ds vs E_ := by
  cases r with
  | dcTO e k l f s rs => subst k; exact ⟨_, _, rfl, .inl e, l, rls_view rs⟩
  | dcTI e k l p i rs => subst k; exact ⟨_, _, rfl, e, l, rls_view rs⟩
theorem vLen : VOpN K (rLenU K) gLen := by
  intro P H ds vs x Q pin rs g h
  unfold gLen at g
  split at g
  · obtain ⟨v, rfl, r⟩ := rls1 rs
    split at g
    · rename_i c
      cases g
      rw [rl_str r]
      exact .inl ⟨_, _, rfl, ⟨c, rfl⟩, h _ P H E_ New.refl .int⟩
    · cases g
  · obtain ⟨v, rfl, r⟩ := rls1 rs
    cases g
    obtain ⟨p, vs, rfl, e, r2⟩ := lst_read r
    refine .inl ⟨_, vs.length, rfl, .inl ⟨vs, .inl (.inl e), rfl⟩, ?_⟩
    rw [← rls_len r2]
    exact h _ P H E_ New.refl .int
  · obtain ⟨v, rfl, r⟩ := rls1 rs
    cases g
    obtain ⟨p, vs, rfl, e, r2⟩ := rol_read r
    refine .inl ⟨_, vs.length, rfl, .inl ⟨vs, e, rfl⟩, ?_⟩
    rw [← rls_len r2]
    exact h _ P H E_ New.refl .int
  · obtain ⟨v, rfl, r⟩ := rls1 rs
    cases g
    obtain ⟨p, vs, rfl, e, _, r2⟩ := tup_read r
    refine .inl ⟨_, vs.length, rfl, .inr ⟨vs, .inl (.inl e), rfl⟩, ?_⟩
    rw [← rls_len r2]
    exact h _ P H E_ New.refl .int
  · obtain ⟨v, rfl, r⟩ := rls1 rs
    cases g
    obtain ⟨p, vs, rfl, e, l, r2⟩ := dct_read r
    refine .inr ⟨p, _, rfl, e, ?_⟩
    rw [List.length_zip, ← l, Nat.min_self]
    exact h _ P H E_ New.refl .int
  · cases g
def gIx (d e : D) : Option D := match d with
  | .lst _ xs => (match e with
    | .int i => atI xs i
    | _ => none)
  | .rol xs => (match e with
    | .int i => atI xs i
    | _ => none)
  | .tup xs => (match e with
    | .int i => atI xs i
    | _ => none)
  | .str z => (match e with
    | .int i => if z.length ≤ sizeLine then (atI z.cps.toList i).map fun c => .str ⟨#[c]⟩ else none
    | _ => none)
  | .dct _ ks xs => (keyOf e).bind (getK ks xs)
  | .dcT _ ks xs => (match e with
    | .tup ds => (keysOf ds).bind (getK ks xs)
    | _ => none)
  | _ => none
def gIxI (d e : D) : Option D := match gIx d e with
  | some x => if isImm x = true then some x else none
  | none => none
abbrev rIxU (K : PySem.W.Frag) : R2 := fun x y H Q => rIx K x y H Q ∨ ∃ a v, x = .ref a ∧ DGet H a y (some v) ∧ Q v H
theorem ix_U {X : Cx} (hu : X.A.units + 1 < cLine) : IxR X (rIxU X.K) := by
  intro value slice pins s σ H x y v u Q I rx ry h hs
  rcases h with h | ⟨a, w, rfl, g, q⟩
  · exact ix_seq value slice pins s σ H x y v u Q I rx ry h hs
  · cases rx
    exact tail_any (dict_typeIs I g) PySem.F.slot_dict_getitem.lookup (d_getItem hu I g ry fun w' s' I' rw' => ⟨w, H, I', rw', q⟩) hs
theorem atI_rls {P : AS} {H : Hp} {ds : List D} {vs : List V} {i : Int} {d : D} {z : Bool} {F : AS} (r : Rls z K P H ds vs F) (h : atI ds i = some d) : ∃ v, atI vs i = some v ∧ Rl z K P H d v F := by
  unfold atI at h ⊢
  rw [← rls_len r]
  cases e : ixN ds.length i with
  | none => rw [e] at h; cases h
  | some j =>
    rw [e] at h
    exact rls_get r h
/-- by a look -/
theorem vIx0 {P : AS} {H : Hp} {d e x : D} {v w : V} {Q : VK} (r1 : Rl false K P H d v E_) (r2 : Rl false K P H e w E_) (g : gIx d e = some x) (h : ∀ u, Rl false K P H x u E_ → Q u H) : rIxU K v w H Q := by
  unfold gIx at g
  split at g
  · split at g
    · obtain ⟨p, vs, rfl, e, rs⟩ := lst_read r1
      obtain ⟨u, h1, h2⟩ := atI_rls rs g
      rw [rl_int r2]
      exact .inl (.inl ⟨p, vs, _, u, rfl, rfl, .inl (.inl e), h1, h u h2⟩)
    · cases g
  · split at g
    · obtain ⟨p, vs, rfl, e, rs⟩ := rol_read r1
      obtain ⟨u, h1, h2⟩ := atI_rls rs g
      rw [rl_int r2]
      exact .inl (.inl ⟨p, vs, _, u, rfl, rfl, e, h1, h u h2⟩)
    · cases g
  · split at g
    · obtain ⟨p, vs, rfl, e, _, rs⟩ := tup_read r1
      obtain ⟨u, h1, h2⟩ := atI_rls rs g
      rw [rl_int r2]
      exact .inl (.inr (.inl ⟨p, vs, _, u, rfl, rfl, .inl (.inl e), h1, h u h2⟩))
    · cases g
  · split at g
    · rename_i z _ i
      split at g
      · rename_i c
        cases e : atI z.cps.toList i with
        | none => rw [e] at g; cases g
        | some k =>
          rw [e] at g; cases g
          rw [rl_str r1, rl_int r2]
          exact .inl (.inr (.inr ⟨_, _, k, rfl, rfl, c, e, h _ .str⟩))
      · cases g
    · cases g
  · rename_i ks xs
    cases e1 : keyOf e with
    | none => rw [e1] at g; cases g
    | some k =>
      rw [e1] at g
      obtain ⟨p, vs, rfl, e2, l, rs⟩ := dct_read r1
      obtain ⟨u, h1, h2⟩ := getK_some rs l g
      rw [keyOf_rl r2 e1]
      exact .inr ⟨p, u, rfl, h1 ▸ DGet.kR e2, h u h2⟩
  · rename_i ks xs
    split at g
    · rename_i ds
      cases e1 : keysOf ds with
      | none => rw [e1] at g; cases g
      | some k =>
        rw [e1] at g
        obtain ⟨p, vs, rfl, e2, l, rs⟩ := dcT_read r1
        obtain ⟨u, h1, h2⟩ := getK_some rs l g
        obtain ⟨q, ws, rfl, e3, _, rs3⟩ := tup_read r2
        rw [keysOf_rls rs3 e1] at e3
        exact .inr ⟨p, u, rfl, h1 ▸ DGet.tR e2 e3, h u h2⟩
    · cases g
  · cases g
theorem vIxI : VOp2 K (rIxU K) gIxI := by
  intro P H d e v w x Q pin r1 r2 g h
  unfold gIxI at g
  cases e1 : gIx d e with
  | none => rw [e1] at g; cases g
  | some y =>
    rw [e1] at g
    simp only at g
    split at g
    · rename_i i
      cases g
      exact vIx0 r1 r2 e1 fun u r => h u P H E_ New.refl (rl_imm r i)
    · cases g
end
section
variable {X : Cx} {RX : RXR} {W : WX} {a b : Expr} {pos : Pos}
theorem dv_ixU {f k : Ev → Option D} (hu : X.A.units + 1 < cLine) (ha : DV X a f) (hb : DV X b k) (hs : PlainIx b) : DV X (.Subscript a b pos) (vOp2 gIx f k) := by
  refine pe_imp (pe_ix (ix_U hu) ha hb hs) fun σ H Q h => ?_
  obtain ⟨P, ρ, FE, S, h⟩ := h
  refine ⟨P, ρ, FE, S, ?_⟩
  unfold vOp2 at h
  cases e : f ρ with
  | none => simp only [e, Option.bind] at h
  | some d =>
    simp only [e, Option.bind] at h
    intro v P1 H1 n1 r1
    refine ⟨P1, ρ, FE, n1.stt S, ?_⟩
    cases e1 : k ρ with
    | none => simp only [e1] at h
    | some d' =>
      simp only [e1] at h
      intro w P2 H2 n2 r2
      cases e2 : gIx d d' with
      | none => simp only [e2] at h
      | some x =>
        simp only [e2] at h
        have r1' : Rl false X.K P2 H2 d v E_ := rl_mono r1 n2.mono (fun b o e _ => n2.same b o e) (fun _ q => q)
        exact vIx0 r1' r2 e2 fun u r => h u P2 H2 (n1.trans_ n2) r
theorem de_ixU {f k : Ev → R D} (hu : X.A.units + 1 < cLine) (ha : DE X RX W a f) (hb : DE X RX W b k) (hs : PlainIx b) : DE X RX W (.Subscript a b pos) (fOp2 gIxI f k) := de_ix (ix_U hu) vIxI ha hb hs
/-- a look, the index with its effects: the look is taken behind it -/
def fIxE (i : Nat) (k : Ev → R D) : Ev → R D := fun ρ => match ρ[i]? with
  | some (some _) => (k ρ).bind fun e ρ1 => (match ρ1[i]? with
    | some (some d) => R.of (gIxI d e) ρ1
    | _ => .stk)
  | _ => .stk
end
end Hap
namespace Hap
open PySem PySem.Spec PyProof.Rows L2
variable [TabC]
section
variable {K : PySem.W.Frag}
def gList (ds : List D) : Option D := match ds with
  | [.lst _ xs] => if isImms xs = true then some (.lst true xs) else none
  | [.rol xs] => if isImms xs = true then some (.lst true xs) else none
  | [.tup xs] => if isImms xs = true then some (.lst true xs) else none
  | _ => none
abbrev rListU (K : PySem.W.Frag) : List V → Hp → VK → Prop := fun xs H Q => ∃ p ys, xs = [.ref p] ∧ (SqL K H p ys ∨ SqT K H p ys) ∧ ∀ l, H l = none → Q (.ref l) (upd H l (.lst ys))
theorem vList : VOpN K (rListU K) gList := by
  intro P H ds vs x Q pin rs g h
  unfold gList at g
  split at g
  · obtain ⟨v, rfl, r⟩ := rls1 rs
    split at g
    · rename_i i
      cases g
      obtain ⟨p, vs, rfl, e, r2⟩ := lst_read r
      exact ⟨p, vs, rfl, .inl (.inl (.inl e)), fun l hl => let ⟨n, r⟩ := new_lst hl pin i r2; h _ _ _ _ n r⟩
    · cases g
  · obtain ⟨v, rfl, r⟩ := rls1 rs
    split at g
    · rename_i i
      cases g
      obtain ⟨p, vs, rfl, e, r2⟩ := rol_read r
      exact ⟨p, vs, rfl, .inl e, fun l hl => let ⟨n, r⟩ := new_lst hl pin i r2; h _ _ _ _ n r⟩
    · cases g
  · obtain ⟨v, rfl, r⟩ := rls1 rs
    split at g
    · rename_i i
      cases g
      obtain ⟨p, vs, rfl, e, _, r2⟩ := tup_read r
      exact ⟨p, vs, rfl, .inr (.inl (.inl e)), fun l hl => let ⟨n, r⟩ := new_lst hl pin i r2; h _ _ _ _ n r⟩
    · cases g
  · cases g
def gTuple (ds : List D) : Option D := match ds with
  | [.lst _ xs] => if isImms xs = true then some (.tup xs) else none
  | [.tup xs] => if isImms xs = true then some (.tup xs) else none
  | _ => none
abbrev rTupleU (K : PySem.W.Frag) : List V → Hp → VK → Prop := fun xs H Q => ∃ p ys, xs = [.ref p] ∧ ((SqL K H p ys ∧ ∀ l, H l = none → Q (.ref l) (upd H l (.tup ys))) ∨ (SqT K H p ys ∧ Q (.ref p) H))
theorem new_tup {P : AS} {H : Hp} {p : Addr} {ds : List D} {vs : List V} (hp : H p = none) (i : isImms ds = true) (rs : Rls false K P H ds vs E_) :
    New P H (fun b => P b ∨ b = p) (upd H p (.tup vs)) E_ ∧ Rl true K (fun b => P b ∨ b = p) (upd H p (.tup vs)) (.tup ds) (.ref p) E_ :=
  ⟨New.tup hp, .tup upd_same (.inr rfl) (rls_mono (z := true) (F := E_) (rls_imm rs i) (fun _ q => .inl q) (fun b o e _ _ => by rw [upd_ne (ne_of_none e hp)]; exact e) fun _ z => z)⟩
theorem vTuple : VOpN K (rTupleU K) gTuple := by
  intro P H ds vs x Q pin rs g h
  unfold gTuple at g
  split at g
  · obtain ⟨v, rfl, r⟩ := rls1 rs
    split at g
    · rename_i i
      cases g
      obtain ⟨p, vs, rfl, e, r2⟩ := lst_read r
      exact ⟨p, vs, rfl, .inl ⟨.inl (.inl e), fun l hl => let ⟨n, r⟩ := new_tup hl i r2; h _ _ _ _ n r⟩⟩
    · cases g
  · obtain ⟨v, rfl, r⟩ := rls1 rs
    split at g
    · rename_i i
      cases g
      obtain ⟨p, vs, rfl, e, _, r2⟩ := tup_read r
      refine ⟨p, vs, rfl, .inr ⟨.inl (.inl e), h _ P H E_ New.refl (rl_imm r (by simpa only [isImm] using i))⟩⟩
    · cases g
  · cases g
def pairsD : List D → Option (List (Key × D))
  | [] => some []
  | .tup [k, d] :: ds => match keyOf k, pairsD ds with
    | some k, some r => if isImm d = true then some ((k, d) :: r) else none
    | _, _ => none
  | _ :: _ => none
def mergeD (m : List (Key × D)) : List Key × List D := m.foldl (fun acc kd => putKs acc.1 acc.2 kd.1 kd.2) ([], [])
def gDict (ds : List D) : Option D := match ds with
  | [.lst _ xs] => (pairsD xs).map fun m => .dct true (mergeD m).1 (mergeD m).2
  | [.dct _ ks xs] => if isImms xs = true then some (.dct true ks xs) else none
  | _ => none
def boolsD : List D → Option (List Bool)
  | [] => some []
  | .bl b :: ds => (boolsD ds).map (b :: ·)
  | _ :: _ => none
def strsD : List D → Option (List Str)
  | [] => some []
  | .str b :: ds => (strsD ds).map (b :: ·)
  | _ :: _ => none
theorem boolsD_cons {d : D} {ds : List D} {bs : List Bool} (h : boolsD (d :: ds) = some bs) : ∃ b cs, d = .bl b ∧ boolsD ds = some cs ∧ bs = b :: cs := by
  cases d <;> simp only [boolsD] at h <;> try (cases h; done)
  cases e : boolsD ds with
  | none => rw [e] at h; cases h
  | some cs => rw [e] at h; cases h; exact ⟨_, cs, rfl, rfl, rfl⟩
theorem bools_rls {P : AS} {H : Hp} {z : Bool} : ∀ {ds : List D} {vs : List V} {F : AS} {bs : List Bool}, Rls z K P H ds vs F → boolsD ds = some bs → vs = bs.map V.bl
  | _, _, _, _, .nil, h => by cases h; rfl
  | _, _, _, _, .cons (d := d) (ds := ds) r rs _ _ _, h => by
    obtain ⟨b, cs, rfl, h2, rfl⟩ := boolsD_cons h
    rw [rl_bl r, bools_rls rs h2]; rfl
/-- the items of a list, read -/
def lstOf (d : D) : Option (List D) := match d with
  | .lst _ xs => some xs
  | .rol xs => some xs
  | _ => none
theorem lstOf_read {P : AS} {H : Hp} {z : Bool} {d : D} {v : V} {F : AS} {xs : List D} (r : Rl z K P H d v F) (h : lstOf d = some xs) : ∃ p vs, v = .ref p ∧ SqL K H p vs ∧ Rls false K P H xs vs E_ := by
  unfold lstOf at h
  split at h
  · cases h; obtain ⟨p, vs, rfl, e, r2⟩ := lst_read r; exact ⟨p, vs, rfl, .inl (.inl e), r2⟩
  · cases h; obtain ⟨p, vs, rfl, e, r2⟩ := rol_read r; exact ⟨p, vs, rfl, e, r2⟩
  · cases h
def gAny (ds : List D) : Option D := match ds with
  | [d] => (lstOf d).bind fun xs => (boolsD xs).map fun bs => .bl (bs.any id)
  | _ => none
def gAll (ds : List D) : Option D := match ds with
  | [d] => (lstOf d).bind fun xs => (boolsD xs).map fun bs => .bl (bs.all id)
  | _ => none
theorem lst1 {α : Type} {P : AS} {H : Hp} {ds : List D} {vs : List V} {x : D} {f : List D → Option α} {k : α → D} {G : List D → Option D} (rs : Rls false K P H ds vs E_) (g : G ds = some x) (hG : ∀ ds, G ds = match ds with
  | [d] => (lstOf d).bind fun xs => (f xs).map k
  | _ => none) : ∃ p ws xs a, vs = [.ref p] ∧ SqL K H p ws ∧ Rls false K P H xs ws E_ ∧ f xs = some a ∧ x = k a := by
  rw [hG] at g
  split at g
  · rename_i d
    obtain ⟨v, rfl, r⟩ := rls1 rs
    cases e : lstOf d with
    | none => rw [e] at g; cases g
    | some xs =>
      rw [e] at g
      obtain ⟨p, ws, rfl, s, r2⟩ := lstOf_read r e
      cases e2 : f xs with
      | none => simp only [Option.bind, e2] at g; cases g
      | some a => simp only [Option.bind, e2] at g; cases g; exact ⟨p, ws, xs, a, rfl, s, r2, e2, rfl⟩
  · cases g
theorem vAll : VOpN K (rAll K) gAll := by
  intro P H ds vs x Q pin rs g h
  obtain ⟨p, ws, xs, bs, rfl, s, r, e, rfl⟩ := lst1 (f := boolsD) (k := fun bs => .bl (bs.all id)) (G := gAll) rs g (fun ds => by unfold gAll; rfl)
  rw [bools_rls r e] at s
  exact ⟨p, bs, rfl, s, h _ P H E_ New.refl .bl⟩
def gAbs (ds : List D) : Option D := match ds with
  | [.int i] => some (.int (if i < 0 then -i else i))
  | _ => none
theorem vAbs : VOpN K (fun xs H Q => ∃ i, xs = [.int i] ∧ Q (.int (if i < 0 then -i else i)) H) gAbs := by
  intro P H ds vs x Q pin rs g h
  unfold gAbs at g
  split at g
  · cases g
    obtain ⟨v, rfl, r⟩ := rls1 rs
    rw [rl_int r]
    exact ⟨_, rfl, h _ P H E_ New.refl .int⟩
  · cases g
def gMax2 (ds : List D) : Option D := match ds with
  | [.int i, .int j] => some (.int (if j > i then j else i))
  | _ => none
def gMin2 (ds : List D) : Option D := match ds with
  | [.int i, .int j] => some (.int (if j < i then j else i))
  | _ => none
theorem vMax2 : VOpN K (fun xs H Q => ∃ i j, xs = [.int i, .int j] ∧ Q (.int (if j > i then j else i)) H) gMax2 := by
  intro P H ds vs x Q pin rs g h
  unfold gMax2 at g
  split at g
  · cases g
    obtain ⟨v, w, _, _, rfl, r, r', _⟩ := rls2 rs
    rw [rl_int r, rl_int r']
    exact ⟨_, _, rfl, h _ P H E_ New.refl .int⟩
  · cases g
theorem vMin2 : VOpN K (fun xs H Q => ∃ i j, xs = [.int i, .int j] ∧ Q (.int (if j < i then j else i)) H) gMin2 := by
  intro P H ds vs x Q pin rs g h
  unfold gMin2 at g
  split at g
  · cases g
    obtain ⟨v, w, _, _, rfl, r, r', _⟩ := rls2 rs
    rw [rl_int r, rl_int r']
    exact ⟨_, _, rfl, h _ P H E_ New.refl .int⟩
  · cases g
def tyN (d : D) : String := match d with
  | .non => "NoneType"
  | .bl _ => "bool"
  | .int _ => "int"
  | .str _ => "str"
  | .lst _ _ => "list"
  | .rol _ => "list"
  | .tup _ => "tuple"
  | .dct _ _ _ => "dict"
  | .dcT _ _ _ => "dict"
  | .dcN _ _ _ => "dict"
  | .clo _ _ => "?"
  | .any => "?"
  | .gv _ => "?"
  | .xn _ _ _ => "?"
  | .obj _ _ _ _ => "?"
/-- a thing whose type is not told here: a type, a dict that may be locked -/
def noTy (d : D) : Bool := match d with
  | .gv _ => true
  | .xn _ _ _ => true
  | .obj _ _ _ _ => true
  | .dct false _ _ => true
  | .dcT false _ _ => true
  | .dcN _ _ _ => true
  | .clo _ _ => true
  | .any => true
  | _ => false
def gIsi (ds : List D) : Option D := match ds with
  | [d, .gv (.ty n)] => if noTy d = true then none else (kitB (tyN d) n).map .bl
  | _ => none
theorem ty_of {P : AS} {H : Hp} {d : D} {v : V} {z : Bool} {F : AS} (r : Rl z K P H d v F) (n : noTy d = false) : TyX K H v (.type (tyN d)) := by
  cases r with
  | non => exact .base .non
  | bl => exact .base (.bl _)
  | int => exact .base (.int _)
  | str => exact .base (.str _)
  | lstO e f s r => exact .base (.lst e)
  | lstI e p i r => exact .base (.lst e)
  | tup e p r => exact .base (.tup e)
  | dctO e k l f s r => exact .base (.dK e)
  | dctI e k l p i r => cases n
  | dcTO e k l f s r => exact .base (.dT e)
  | dcTI e k l p i r => cases n
  | dcNO => cases n
  | dcNI => cases n
  | clo => cases n
  | any => cases n
  | rol e i r =>
    rcases e with ⟨_, e | ⟨o, e⟩⟩ | ⟨o, its, nn, e, c, _⟩
    · exact .base (.lst e)
    · exact .base (.frz e)
    · exact .kList e c
  | gv => cases n
  | xn => cases n
  | objO e k l f s r => cases n
  | objI e k l p i r => cases n
theorem vIsi : VOpN K (rIsi K) gIsi := by
  intro P H ds vs x Q pin rs g h
  unfold gIsi at g
  split at g
  · rename_i d n
    split at g
    · cases g
    · rename_i ng
      cases e : kitB (tyN d) n with
      | none => rw [e] at g; cases g
      | some b =>
        rw [e] at g; cases g
        obtain ⟨v, w, _, _, rfl, r, r', _⟩ := rls2 rs
        cases r' with
        | gv => exact ⟨v, .ty n, _, _, b, rfl, .ty n, ty_of r (by simpa using ng), kit_ty e, h _ P H E_ New.refl .bl⟩
  · cases g
end
end Hap
namespace Hap
open PySem PySem.Spec PyProof.Rows L2
variable [TabC]
section
variable {X : Cx} {RX : RXR} {W : WX} {e : Expr} {es : List Expr} {pos p : Pos}
def fLst (f : Ev → R (List D)) : Ev → R D := fun ρ => (f ρ).bind fun ds ρ1 => if ds.length ≤ sizeLine then .ok (.lst true ds) ρ1 else .stk
def fTup (f : Ev → R (List D)) : Ev → R D := fun ρ => (f ρ).bind fun ds ρ1 => if ds.length ≤ sizeLine then .ok (.tup ds) ρ1 else .stk
theorem de_lst {f : Ev → R (List D)} (h : DA X RX W es f) : DE X RX W (.List es pos) (fLst f) := by
  refine pe_imp (pe_lst h) fun σ H Q q => ?_
  obtain ⟨P, ρ, FE, S, q⟩ := q
  refine ⟨P, ρ, FE, S, ?_⟩
  unfold fLst at q
  cases e : f ρ with
  | exc x ρ1 => simp only [e, R.bind] at q; exact q
  | stk => simp only [e, R.bind] at q
  | ok ds ρ1 =>
    simp only [e, R.bind] at q
    intro vs P1 H1 FE1 F1 S1 T1 t1
    by_cases c : ds.length ≤ sizeLine
    · simp only [if_pos c] at q
      refine ⟨by rw [← rls_len T1.rl]; exact c, fun a ha => ?_⟩
      have n : New P1 H1 P1 (upd H1 a (.lst vs)) (fun b => b = a) := New.lst ha S1.pin
      refine q (.ref a) P1 _ FE1 (fun b => F1 b ∨ b = a) (n.stt S1) ⟨.lstO (F' := F1) upd_same (fun _ => .inr rfl) (fun b z => ⟨.inl z, fun w => (T1.own b z).1 (by rw [w]; exact ha)⟩) (rls_mono T1.rl (fun _ q => q) (fun b o e _ => n.same b o e) fun _ q => q), fun b z => ?_⟩ ((t1.trans (n.tr (U0 := fun b => U FE1 b ∨ F1 b))).less fun b z => z.elim (fun z => .inl (.inl z)) fun z => z.elim (fun z => .inl (.inr z)) .inr)
      rcases z with z | z
      · exact ⟨n.alive b (T1.own b z).1, (T1.own b z).2⟩
      · subst z
        exact ⟨by rw [upd_same]; simp, fun w => S1.pin _ w ha, fun ⟨i, w⟩ => (S1.fin i _ w).1 ha⟩
    · simp only [if_neg c] at q
theorem de_tup {f : Ev → R (List D)} {x1} (h : DA X RX W es f) : DE X RX W (.Tuple es x1 pos) (fTup f) := by
  refine pe_imp (pe_tup h) fun σ H Q q => ?_
  obtain ⟨P, ρ, FE, S, q⟩ := q
  refine ⟨P, ρ, FE, S, ?_⟩
  unfold fTup at q
  cases e : f ρ with
  | exc x ρ1 => simp only [e, R.bind] at q; exact q
  | stk => simp only [e, R.bind] at q
  | ok ds ρ1 =>
    simp only [e, R.bind] at q
    intro vs P1 H1 FE1 F1 S1 T1 t1
    by_cases c : ds.length ≤ sizeLine
    · simp only [if_pos c] at q
      refine ⟨by rw [← rls_len T1.rl]; exact c, fun a ha => ?_⟩
      have n : New P1 H1 (fun b => P1 b ∨ b = a) (upd H1 a (.tup vs)) E_ := New.tup ha
      refine q (.ref a) _ _ FE1 F1 (n.stt S1) ⟨.tup upd_same (.inr rfl) (rls_mono T1.rl n.mono (fun b o e _ => n.same b o e) fun _ q => q), fun b z => ⟨n.alive b (T1.own b z).1, fun w => w.elim (T1.own b z).2.1 fun w => (T1.own b z).1 (by rw [w]; exact ha), (T1.own b z).2.2⟩⟩
        ((t1.trans (n.tr (U0 := fun b => U FE1 b ∨ F1 b))).less fun b z => .inl z)
    · simp only [if_neg c] at q
end
end Hap
namespace Hap
open PySem PySem.Spec PyProof.Rows L2
variable [TabC]
section
variable {K : PySem.W.Frag} {P : AS} {H : Hp} {FE : FP} {ρ : Ev} {σ : L2.St}
theorem slot_write {i : Nat} {p : Addr} {o u0 : HO} {d' : D} {F1 : AS} (S : Stt K P H ρ σ FE) (he : H p = some u0) (nd : Nd u0) (hv : σ[i]? = some (some (.ref p))) (hp : FE i p) (own : ∀ b, F1 b → H b ≠ none ∧ ¬ P b ∧ ¬ U FE b)
    (r : Rl true K P (upd H p o) d' (.ref p) (fun b => FE i b ∨ F1 b)) (no : Nd o := by constructor) :
    Stt K P (upd H p o) (ρ.set i (some d')) σ (fun j b => FE j b ∨ (j = i ∧ F1 b)) ∧ Tr P H (fun b => U FE b ∨ F1 b) P (upd H p o) (U fun j b => FE j b ∨ (j = i ∧ F1 b)) := by
  have nP : ¬ P p := (S.fin i p hp).2
  have al : ∀ b, H b ≠ none → upd H p o b ≠ none := fun b h => by
    by_cases e : b = p
    · subst e; rw [upd_same]; simp
    · rw [upd_ne e]; exact h
  refine ⟨⟨fun b q => al b (S.pin b q), fun j b q => ?_, fun j k b q w => ?_, fun j d e => ?_, by simpa using S.len, tabs_write S.tab he nd no⟩, ⟨fun b u e n nt => ?_, fun _ q => q, fun _ q => .inl q, fun b q => ?_, al⟩⟩
  · rcases q with q | q
    · exact ⟨al b (S.fin j b q).1, (S.fin j b q).2⟩
    · exact ⟨al b (own b q.2).1, (own b q.2).2.1⟩
  · rcases q with q | q <;> rcases w with w | w
    · exact S.dj j k b q w
    · exact ((own b w.2).2.2 ⟨j, q⟩).elim
    · exact ((own b q.2).2.2 ⟨k, w⟩).elim
    · exact q.1.trans w.1.symm
  · by_cases h : j = i
    · subst h
      have hl : j < ρ.length := by
        have := (List.getElem?_eq_some_iff.mp e).1
        simpa using this
      rw [List.getElem?_set_self hl] at e
      cases e
      exact ⟨_, hv, rl_mono r (fun _ q => q) (fun _ _ e _ _ => e) fun b q => q.imp id fun w => ⟨rfl, w⟩⟩
    · rw [List.getElem?_set_ne (Ne.symm h)] at e
      obtain ⟨v, e1, r1⟩ := S.rel j d e
      refine ⟨v, e1, rl_mono r1 (fun _ q => q) (fun b u e q _ => ?_) fun b q => .inl q⟩
      rw [upd_ne]
      · exact e
      · intro z; subst z
        exact (q rfl).elim nP fun w => h (S.dj _ _ _ w hp)
  · rw [upd_ne]
    · exact e
    · intro z; subst z; exact n (.inl ⟨i, hp⟩)
  · obtain ⟨j, q | q⟩ := q
    · exact .inl (.inl ⟨j, q⟩)
    · exact .inl (.inr q.2)
/-- what stands at a slot that is a list, a dict of one's own -/
theorem slot_lst {i : Nat} {xs : List D} (S : Stt K P H ρ σ FE) (e : ρ[i]? = some (some (.lst true xs))) : ∃ p vs F', σ[i]? = some (some (.ref p)) ∧ H p = some (.lst vs) ∧ FE i p ∧ (∀ b, F' b → FE i b ∧ b ≠ p) ∧ Rls true K P H xs vs F' := by
  obtain ⟨v, ev, r⟩ := S.rel i _ e
  cases r with
  | lstO h f s rs => exact ⟨_, _, _, ev, h, f rfl, s, rs⟩
theorem slot_dct {i : Nat} {ks : List Key} {xs : List D} (S : Stt K P H ρ σ FE) (e : ρ[i]? = some (some (.dct true ks xs))) : ∃ p vs F', σ[i]? = some (some (.ref p)) ∧ H p = some (.dK (ks.zip vs)) ∧ ks.length = vs.length ∧ FE i p ∧ (∀ b, F' b → FE i b ∧ b ≠ p) ∧ Rls true K P H xs vs F' := by
  obtain ⟨v, ev, r⟩ := S.rel i _ e
  cases r with
  | dctO h k l f s rs => subst k; exact ⟨_, _, _, ev, h, l, f rfl, s, rs⟩
theorem slot_dcT {i : Nat} {ks : List (List Key)} {xs : List D} (S : Stt K P H ρ σ FE) (e : ρ[i]? = some (some (.dcT true ks xs))) : ∃ p vs F', σ[i]? = some (some (.ref p)) ∧ H p = some (.dT (ks.zip vs)) ∧ ks.length = vs.length ∧ FE i p ∧ (∀ b, F' b → FE i b ∧ b ≠ p) ∧ Rls true K P H xs vs F' := by
  obtain ⟨v, ev, r⟩ := S.rel i _ e
  cases r with
  | dcTO h k l f s rs => subst k; exact ⟨_, _, _, ev, h, l, f rfl, s, rs⟩
/-- the items stay while the list's own object is written -/
theorem rls_upd {p : Addr} {o : HO} {ds : List D} {vs : List V} {F' : AS} (rs : Rls true K P H ds vs F') (nP : ¬ P p) (nF : ¬ F' p) : Rls true K P (upd H p o) ds vs F' :=
  rls_mono rs (fun _ q => q) (fun b u e q _ => by
    rw [upd_ne]
    · exact e
    · intro z; subst z; exact (q rfl).elim nP nF) fun _ q => q
theorem rl_upd {p : Addr} {o : HO} {d : D} {v : V} {F' : AS} (rs : Rl true K P H d v F') (nP : ¬ P p) (nF : ¬ F' p) : Rl true K P (upd H p o) d v F' :=
  rl_mono rs (fun _ q => q) (fun b u e q _ => by
    rw [upd_ne]
    · exact e
    · intro z; subst z; exact (q rfl).elim nP nF) fun _ q => q
theorem rls_set {z : Bool} {d : D} {v : V} {F1 : AS} : ∀ {ds : List D} {vs : List V} {F F2 : AS} (j : Nat), Rls z K P H ds vs F2 → Rl z K P H d v F1 → (∀ b, F2 b → F b) → (∀ b, F1 b → F b) → (∀ b, F1 b → F2 b → False) → Rls z K P H (ds.set j d) (vs.set j v) F
  | _, _, _, _, _, .nil, _, _, _, _ => .nil
  | _, _, F, F2, 0, .cons (F1 := G1) (F2 := G2) r rs s1 s2 dj, q, t2, t1, dd => .cons (F1 := F1) (F2 := G2) q rs t1 (fun b z => t2 b (s2 b z)) fun b z w => dd b z (s2 b w)
  | _, _, F, F2, j + 1, .cons (F1 := G1) (F2 := G2) r rs s1 s2 dj, q, t2, t1, dd =>
    .cons (F1 := G1) (F2 := fun b => G2 b ∨ F1 b) r (rls_set j rs q (fun _ z => .inl z) (fun _ z => .inr z) fun b z w => dd b z (s2 b w)) (fun b z => t2 b (s1 b z)) (fun b z => z.elim (fun z => t2 b (s2 b z)) (t1 b)) fun b z w => w.elim (dj b z) fun w => dd b w (s1 b z)
end
def fAppend (i : Nat) (f : Ev → R (List D)) : Ev → RS := fun ρ => match ρ[i]? with
  | some (some (.lst _ _)) => RS.of (f ρ) fun ds ρ1 => (match ds with
    | [d] => (match ρ1[i]? with
      | some (some (.lst true xs)) => if xs.length < sizeLine then .nx (ρ1.set i (some (.lst true (xs ++ [d])))) else .stk
      | _ => .stk)
    | _ => .stk)
  | _ => .stk
def fSetL (i : Nat) (f k : Ev → R D) : Ev → RS := fun ρ => RS.of (f ρ) fun d ρ1 => match ρ1[i]? with
  | some (some _) => RS.of (k ρ1) fun e ρ2 => (match e with
    | .int n => (match ρ2[i]? with
      | some (some (.lst true xs)) => (match ixN xs.length n with
        | some j => .nx (ρ2.set i (some (.lst true (xs.set j d))))
        | none => .stk)
      | _ => .stk)
    | _ => .stk)
  | _ => .stk
def fAug (i : Nat) (g : D → D → Option D) (f : Ev → R D) : Ev → RS := fun ρ => match ρ[i]? with
  | some (some d0) => if isImm d0 = true then RS.of (f ρ) fun d ρ1 => (match g d0 d with
    | some x => .nx (ρ1.set i (some x))
    | none => .stk) else .stk
  | _ => .stk
section
variable {X : Cx} {RX : RXR} {W : WX} {kp : List Nat}
theorem ds_append {s : Stmt} {i : Nat} {f : Ev → R (List D)} (h : PS X s (tDrop (tBM X.K "list" rAppend (tVar i) (tA X.K RX W f)))) : DS X RX W kp s (fAppend i f) := by
  refine ps_imp h fun D σ H q => ?_
  obtain ⟨P, ρ, FE, S, q⟩ := q
  unfold fAppend at q
  split at q
  · rename_i o xs e0
    obtain ⟨v, ev, r⟩ := S.rel i _ e0
    obtain ⟨p, vs, rfl, e, rs⟩ := lst_read r
    refine ⟨.ref p, ev, .inl ⟨rfl, vs, .inl (.inl e)⟩, P, ρ, FE, S, ?_⟩
    cases e1 : f ρ with
    | exc x ρ1 => simp only [e1, RS.of] at q; exact fun cls dx P' H' FE' S' t r => q cls dx σ P' H' FE' S' t Kp.refl r
    | stk => simp only [e1, RS.of] at q; exact q.elim
    | ok ds ρ1 =>
      simp only [e1, RS.of] at q
      intro ws P1 H1 FE1 F1 S1 T1 t1
      split at q
      · rename_i d
        split at q
        · rename_i ys e2
          split at q
          · rename_i hl
            obtain ⟨p', vs', F', ev', h1, h2, h3, h4⟩ := slot_lst S1 e2
            rw [ev] at ev'; cases ev'
            obtain ⟨w, rfl, rw'⟩ := rls1 T1.rl
            have nP := (S1.fin i p h2).2
            have nF1 : ¬ F1 p := fun z => (T1.own p z).2.2 ⟨i, h2⟩
            have nF' : ¬ F' p := fun z => (h3 p z).2 rfl
            obtain ⟨S2, t2⟩ := slot_write (o := .lst (vs' ++ [w])) (d' := .lst true (ys ++ [d])) S1 h1 .lst ev h2 T1.own (.lstO (F' := fun b => F' b ∨ F1 b) upd_same (fun _ => .inl h2) (fun b z => z.elim (fun z => ⟨.inl (h3 b z).1, (h3 b z).2⟩) fun z => ⟨.inr z, fun w => nF1 (by rw [← w]; exact z)⟩)
              (rls_snoc (rls_upd h4 nP nF') (rl_upd rw' nP nF1) (fun _ z => .inl z) (fun _ z => .inr z) fun b z w => (T1.own b w).2.2 ⟨i, (h3 b z).1⟩))
            exact ⟨p, vs', w, rfl, rfl, h1, by rw [← rls_len h4]; exact hl, q σ P1 _ _ S2 (t1.trans t2) Kp.refl⟩
          · exact q.elim
        · exact q.elim
      · exact q.elim
  · exact q.elim
theorem ds_setL {s : Stmt} {i : Nat} {f k : Ev → R D} (h : PS X s (tAsg (tE X.K RX W f) (L2.gSub (tVar i) (tE X.K RX W k) rSetL))) : DS X RX W kp s (fSetL i f k) := by
  refine ps_imp h fun D σ H q => ?_
  obtain ⟨P, ρ, FE, S, q⟩ := q
  refine ⟨P, ρ, FE, S, ?_⟩
  unfold fSetL at q
  cases e : f ρ with
  | exc x ρ1 => simp only [e, RS.of] at q; exact fun cls dx P' H' FE' S' t r => q cls dx σ P' H' FE' S' t Kp.refl r
  | stk => simp only [e, RS.of] at q; exact q.elim
  | ok d ρ1 =>
    simp only [e, RS.of] at q
    intro v P1 H1 FE1 F1 S1 T1 t1
    split at q
    · rename_i d0 e0
      obtain ⟨vp, ev, _⟩ := S1.rel i _ e0
      refine ⟨vp, ev, P1, ρ1, FE1, S1, ?_⟩
      cases e1 : k ρ1 with
      | exc x ρ2 => simp only [e1] at q; exact fun cls dx P' H' FE' S' t r => q cls dx σ P' H' FE' S' (t1.less'.trans t) Kp.refl r
      | stk => simp only [e1] at q; exact q.elim
      | ok ee ρ2 =>
        simp only [e1] at q
        intro w P2 H2 FE2 F2 S2 T2 t2
        split at q
        · rename_i n
          split at q
          · rename_i xs e3
            split at q
            · rename_i j ej
              obtain ⟨p, vs, F', ev', h1, h2, h3, h4⟩ := slot_lst S2 e3
              rw [ev] at ev'; cases ev'
              obtain ⟨T1', _⟩ := T1.step S1 t2
              have nP := (S2.fin i p h2).2
              have nF1 : ¬ F1 p := fun z => (T1'.own p z).2.2 ⟨i, h2⟩
              have nF' : ¬ F' p := fun z => (h3 p z).2 rfl
              obtain ⟨S3, t3⟩ := slot_write (o := .lst (vs.set j v)) (d' := .lst true (xs.set j d)) S2 h1 .lst ev h2 T1'.own (.lstO (F' := fun b => F' b ∨ F1 b) upd_same (fun _ => .inl h2) (fun b z => z.elim (fun z => ⟨.inl (h3 b z).1, (h3 b z).2⟩) fun z => ⟨.inr z, fun w => nF1 (by rw [← w]; exact z)⟩)
                (rls_set j (rls_upd h4 nP nF') (rl_upd T1'.rl nP nF1) (fun _ z => .inl z) (fun _ z => .inr z) fun b z w => (T1'.own b z).2.2 ⟨i, (h3 b w).1⟩))
              rw [rl_int T2.rl]
              refine ⟨p, vs, n, j, rfl, rfl, h1, by rw [← rls_len h4]; exact ej, q σ P2 _ _ S3 ((t1.seq t2.less').trans ?_) Kp.refl⟩
              exact t3
            · exact q.elim
          · exact q.elim
        · exact q.elim
    · exact q.elim
end
end Hap
namespace Hap
open PySem PySem.Spec PyProof.Rows L2
variable [TabC]
def fChain (g g' : D → D → Option D) (fa fb fc : Ev → R D) : Ev → R D := fun ρ => (fa ρ).bind fun a ρ1 => (fb ρ1).bind fun b ρ2 => match g a b with
  | some (.bl k) => if k = true then (fc ρ2).bind fun c ρ3 => R.of (g' b c) ρ3 else .ok (.bl false) ρ2
  | _ => .stk
section
variable {K : PySem.W.Frag} {RX : RXR} {W : WX} {σ : L2.St} {H : Hp}
theorem e_chain {r r' : R2} {g g' : D → D → Option D} {fa fb fc : Ev → R D} (hv : VOp2 K r g) (hv' : VOp2 K r' g') {Q : VK} (q : tE K RX W (fChain g g' fa fb fc) σ H Q) : tChain r r' (tE K RX W fa) (tE K RX W fb) (tE K RX W fc) σ H Q := by
  obtain ⟨P, ρ, FE, S, q⟩ := q
  refine ⟨P, ρ, FE, S, ?_⟩
  unfold fChain at q
  cases e : fa ρ with
  | exc x ρ1 => simp only [e, R.bind] at q; exact q
  | stk => simp only [e, R.bind] at q
  | ok a ρ1 =>
    simp only [e, R.bind] at q
    intro va P1 H1 FE1 F1 S1 T1 t1
    refine ⟨P1, ρ1, FE1, S1, ?_⟩
    cases e1 : fb ρ1 with
    | exc x ρ2 => simp only [e1] at q; exact fun cls dx P2 H2 FE2 S2 t2 r => q cls dx P2 H2 FE2 S2 (t1.less'.trans t2) r
    | stk => simp only [e1] at q
    | ok b ρ2 =>
      simp only [e1] at q
      intro vb P2 H2 FE2 F2 S2 T2 t2
      have T1' := (T1.step S1 t2).1
      cases e2 : g a b with
      | none => simp only [e2] at q
      | some x =>
        cases x with
        | bl k =>
          simp only [e2] at q
          refine hv P2 H2 a b va vb _ _ S2.pin (rl_view T1'.rl) (rl_view T2.rl) e2 fun u P3 H3 F3 n3 r3 => ?_
          have S3 := n3.stt S2
          have t3 : Tr P H (U FE) P3 H3 (U FE2) := (t1.less'.trans t2.less').trans n3.tr.less'
          refine ⟨k, rl_bl r3, ?_⟩
          cases k with
          | false =>
            simp only [if_neg Bool.false_ne_true] at q ⊢
            exact q _ P3 H3 FE2 E_ S3 ⟨.bl, fun b z => z.elim⟩ (t3.less fun b z => z.elim id False.elim)
          | true =>
            simp only [if_pos] at q ⊢
            refine ⟨P3, ρ2, FE2, S3, ?_⟩
            cases e3 : fc ρ2 with
            | exc x ρ4 => simp only [e3] at q; exact fun cls dx P4 H4 FE4 S4 t4 r => q cls dx P4 H4 FE4 S4 (t3.trans t4) r
            | stk => simp only [e3] at q
            | ok c ρ4 =>
              simp only [e3] at q
              intro vc P4 H4 FE4 F4 S4 T4 t4
              have t24 : Tr P2 H2 (U FE2) P4 H4 (fun b => U FE4 b ∨ F4 b) := n3.tr.less'.trans t4
              have T2' := (T2.step S2 t24).1
              cases e4 : g' b c with
              | none => simp only [e4, R.of] at q
              | some x =>
                simp only [e4, R.of] at q
                exact hv' P4 H4 b c vb vc x Q S4.pin (rl_view T2'.rl) (rl_view T4.rl) e4 fun u P5 H5 F5 n r => q u P5 H5 FE4 F5 (n.stt S4) (n.tmp S4 r) ((t3.trans t4.less').trans n.tr)
        | _ => simp only [e2] at q
end
section
variable {X : Cx} {RX : RXR} {W : WX} {kp : List Nat} {a b c : Expr} {pos : Pos}
theorem de_chain {op op' : CmpOp} {r r' : R2} {g g' : D → D → Option D} {fa fb fc : Ev → R D} (ho : OpR X (compareOp op) r) (hv : VOp2 X.K r g) (ho' : OpR X (compareOp op') r') (hv' : VOp2 X.K r' g') (ha : DE X RX W a fa) (hb : DE X RX W b fb) (hc : DE X RX W c fc)
    (hm : lastMarks [op, op'] [b, c] = false := by with_unfolding_all rfl) : DE X RX W (.Compare a [op, op'] [b, c] pos) (fChain g g' fa fb fc) :=
  pe_imp (pe_chain ho ho' ha hb hc hm) fun σ H Q q => e_chain hv hv' q
theorem dt_chain {op op' : CmpOp} {r r' : R2} {g g' : D → D → Option D} {fa fb fc : Ev → R D} (ho : OpR X (compareOp op) r) (hv : VOp2 X.K r g) (ho' : OpR X (compareOp op') r') (hv' : VOp2 X.K r' g') (ha : DE X RX W a fa) (hb : DE X RX W b fb) (hc : DE X RX W c fc)
    (hm : lastMarks [op, op'] [b, c] = false := by with_unfolding_all rfl) : DT X RX W (.Compare a [op, op'] [b, c] pos) (fTb (fChain g g' fa fb fc)) :=
  pt_imp (pt_chain ho ho' ha hb hc hm) fun σ H Q q => e_chain hv hv' (t_val q)
def VMt (K : PySem.W.Frag) (T : String) (r : V → List V → Hp → VK → Prop) (g : D → List D → Option D) (ty : D → Bool) : Prop :=
  (∀ (P : AS) (H : Hp) (d : D) (v : V), Rl false K P H d v E_ → ty d = true → tyV K T v H) ∧
  ∀ (P : AS) (H : Hp) (d : D) (ds : List D) (v : V) (vs : List V) (x : D) (Q : VK), (∀ b, P b → H b ≠ none) → Rl false K P H d v E_ → Rls false K P H ds vs E_ → g d ds = some x → (∀ u P' H' F, New P H P' H' F → Rl true K P' H' x u F → Q u H') → r v vs H Q
def fMeth (ty : D → Bool) (g : D → List D → Option D) (fo : Ev → R D) (fa : Ev → R (List D)) : Ev → R D := fun ρ => (fo ρ).bind fun d ρ1 => if ty d = true then (fa ρ1).bind fun ds ρ2 => R.of (g d ds) ρ2 else .stk
theorem de_meth {e : Expr} {T : String} {r : V → List V → Hp → VK → Prop} {g : D → List D → Option D} {ty : D → Bool} {fo : Ev → R D} {fa : Ev → R (List D)} (hv : VMt X.K T r g ty) (h : PE X e (tBM X.K T r (tE X.K RX W fo) (tA X.K RX W fa))) : DE X RX W e (fMeth ty g fo fa) := by
  refine pe_imp h fun σ H Q q => ?_
  obtain ⟨P, ρ, FE, S, q⟩ := q
  refine ⟨P, ρ, FE, S, ?_⟩
  unfold fMeth at q
  cases e : fo ρ with
  | exc x ρ1 => simp only [e, R.bind] at q; exact q
  | stk => simp only [e, R.bind] at q
  | ok d ρ1 =>
    simp only [e, R.bind] at q
    intro v P1 H1 FE1 F1 S1 T1 t1
    by_cases c : ty d = true
    · simp only [if_pos c] at q
      refine ⟨hv.1 P1 H1 d v (rl_view T1.rl) c, P1, ρ1, FE1, S1, ?_⟩
      cases e1 : fa ρ1 with
      | exc x ρ2 => simp only [e1] at q; exact fun cls dx P2 H2 FE2 S2 t2 r => q cls dx P2 H2 FE2 S2 (t1.less'.trans t2) r
      | stk => simp only [e1] at q
      | ok ds ρ2 =>
        simp only [e1] at q
        intro vs P2 H2 FE2 F2 S2 T2 t2
        have T1' := (T1.step S1 t2).1
        cases e2 : g d ds with
        | none => simp only [e2, R.of] at q
        | some x =>
          simp only [e2, R.of] at q
          exact hv.2 P2 H2 d ds v vs x Q S2.pin (rl_view T1'.rl) (rls_view T2.rl) e2 fun u P3 H3 F3 n r => q u P3 H3 FE2 F3 (n.stt S2) (n.tmp S2 r) ((t1.less'.trans t2.less').trans n.tr)
    · simp only [if_neg c] at q
def isL (d : D) : Bool := match d with
  | .lst _ _ => true
  | .rol _ => true
  | _ => false
def idxP (z : PyData) : List PyData → Option Nat
  | [] => none
  | y :: ys => if PyData.eqv y z = true then some 0 else (idxP z ys).map (· + 1)
theorem idxP_ok {z : PyData} : ∀ {ys : List PyData} {j : Nat}, idxP z ys = some j → ∃ y, ys[j]? = some y ∧ PyData.eqv y z = true ∧ ∀ (m : Nat) (z' : PyData), m < j → ys[m]? = some z' → PyData.eqv z' z = false
  | [], _, h => by simp [idxP] at h
  | y :: ys, j, h => by
    simp only [idxP] at h
    by_cases c : PyData.eqv y z = true
    · rw [if_pos c] at h; cases h
      exact ⟨y, rfl, c, fun m z' hm => absurd hm (Nat.not_lt_zero _)⟩
    · rw [if_neg c] at h
      cases e : idxP z ys with
      | none => rw [e] at h; cases h
      | some k =>
        rw [e] at h; cases h
        obtain ⟨y', h1, h2, h3⟩ := idxP_ok e
        refine ⟨y', by simpa using h1, h2, fun m z' hm hz => ?_⟩
        cases m with
        | zero => simp at hz; subst hz; simpa using c
        | succ m => exact h3 m z' (Nat.lt_of_succ_lt_succ hm) (by simpa using hz)
def gIndex (d : D) (ds : List D) : Option D := match ds with
  | [e] => (lstOf d).bind fun xs => if SeqAt.shaped (toPy e) = true ∧ SeqAt.shaped (.list (toPys xs)) = true then (idxP (toPy e) (toPys xs)).map fun (j : Nat) => .int (j : Int) else none
  | _ => none
theorem vIndex {K : PySem.W.Frag} : VMt K "list" (rIndexD K) gIndex isL := by
  refine ⟨fun P H d v r t => ?_, fun P H d ds v vs x Q pin r rs g h => ?_⟩
  · cases d with
    | lst o xs => obtain ⟨p, vs, rfl, e, _⟩ := lst_read r; exact .inl ⟨rfl, vs, .inl (.inl e)⟩
    | rol xs => obtain ⟨p, vs, rfl, e, _⟩ := rol_read r; exact .inl ⟨rfl, vs, e⟩
    | _ => cases t
  · unfold gIndex at g
    split at g
    · rename_i e
      obtain ⟨w, rfl, rw'⟩ := rls1 rs
      cases e1 : lstOf d with
      | none => rw [e1] at g; cases g
      | some xs =>
        simp only [e1, Option.bind] at g
        split at g
        · rename_i c
          cases e2 : idxP (toPy e) (toPys xs) with
          | none => rw [e2] at g; cases g
          | some j =>
            rw [e2] at g; cases g
            obtain ⟨p, ws, rfl, s, r2⟩ := lstOf_read r e1
            obtain ⟨y, h1, h2, h3⟩ := idxP_ok e2
            exact ⟨p, w, _, _, j, y, rfl, rfl, .lst s (dps_of r2 (by simpa only [PyData.canLay0] using shaped_lay c.2)), dp_of rw' (shaped_lay c.1), c.2, c.1, h1, h2, h3, h _ P H E_ New.refl .int⟩
        · cases g
    · cases g
/-- sep.join(texts) -/
def gJoin (d : D) (e : D) : Option D := match d with
  | .str a => (lstOf e).bind fun xs => (strsD xs).bind fun ys => if (ys.map (·.length)).sum + ys.length * a.length ≤ 16777216 then some (.str (Txt.join a ys)) else none
  | _ => none
def fJoin (fo fa : Ev → R D) : Ev → R D := fun ρ => (fo ρ).bind fun d ρ1 => match d with
  | .str _ => (fa ρ1).bind fun e ρ2 => R.of (gJoin d e) ρ2
  | _ => .stk
def tO (K : PySem.W.Frag) (RX : RXR) (W : WX) (f : Ev → R (Option Int)) : TO := fun σ H Q => ∃ P ρ FE, Stt K P H ρ σ FE ∧ match f ρ with
  | .ok i ρ' => ∀ P' H' FE', Stt K P' H' ρ' σ FE' → Tr P H (U FE) P' H' (U FE') → Q i H'
  | .exc x ρ' => ∀ cls dx P' H' FE', Stt K P' H' ρ' σ FE' → Tr P H (U FE) P' H' (U FE') → RX x P' H' cls dx → W cls dx σ H'
  | .stk => False
abbrev DO (X : Cx) (RX : RXR) (W : WX) (e : Option Expr) (f : Ev → R (Option Int)) : Prop := PO X e (tO X.K RX W f)
def fO (f : Ev → R D) : Ev → R (Option Int) := fun ρ => (f ρ).bind fun d ρ1 => match d with
  | .int i => .ok (some i) ρ1
  | _ => .stk
theorem do_none : DO X RX W none (fun ρ => .ok none ρ) := ⟨fun pins s σ H Q I ⟨P, ρ, FE, S, q⟩ => po_none.run pins s σ H Q I (q P H FE S Tr.refl)⟩
theorem do_some {e : Expr} {f : Ev → R D} (h : DE X RX W e f) : DO X RX W (some e) (fO f) := by
  refine ⟨fun pins s σ H Q I q => (po_some h).run pins s σ H Q I ?_⟩
  obtain ⟨P, ρ, FE, S, q⟩ := q
  refine ⟨P, ρ, FE, S, ?_⟩
  unfold fO at q
  cases e : f ρ with
  | exc x ρ1 => simp only [e, R.bind] at q; exact q
  | stk => simp only [e, R.bind] at q
  | ok d ρ1 =>
    simp only [e, R.bind] at q
    intro v P1 H1 FE1 F1 S1 T1 t1
    cases d with
    | int i => exact ⟨_, rl_int T1.rl, q P1 H1 FE1 S1 t1.less'⟩
    | _ => simp only at q
def cutD (xs : List D) (lo hi : Option Int) : List D := (xs.drop (HT.sIx xs.length 0 lo)).take (HT.sIx xs.length xs.length hi - HT.sIx xs.length 0 lo)
def gSl (d : D) (lo hi : Option Int) : Option D := match d with
  | .lst _ xs => if isImms xs = true then some (.lst true (cutD xs lo hi)) else none
  | .str z => if z.length ≤ sizeLine then some (.str (cutS z lo hi)) else none
  | .tup xs => if isImms xs = true ∧ ¬ (HT.sIx xs.length 0 lo = 0 ∧ HT.sIx xs.length xs.length hi = xs.length) then some (.tup (cutD xs lo hi)) else none
  | _ => none
def fSl (f : Ev → R D) (l u : Ev → R (Option Int)) : Ev → R D := fun ρ => (f ρ).bind fun d ρ1 => (l ρ1).bind fun lo ρ2 => (u ρ2).bind fun hi ρ3 => R.of (gSl d lo hi) ρ3
abbrev rSlU (K : PySem.W.Frag) : V → Option Int → Option Int → Hp → VK → Prop := fun x lo hi H Q => rSlL K x lo hi H Q ∨ rSlS x lo hi H Q ∨ rSlT K x lo hi H Q
theorem sl_U : SlR X (rSlU X.K) := sl_list.or (sl_str.or sl_tup)
theorem isImms_drop : ∀ {xs : List D} (n : Nat), isImms xs = true → isImms (xs.drop n) = true
  | xs, 0, h => by simpa using h
  | [], _ + 1, h => by simpa using h
  | _ :: _, n + 1, h => by
    simp only [isImms, Bool.and_eq_true] at h
    exact isImms_drop n h.2
theorem isImms_take : ∀ {xs : List D} (n : Nat), isImms xs = true → isImms (xs.take n) = true
  | _, 0, h => by simp [isImms]
  | [], _ + 1, h => by simpa using h
  | _ :: _, n + 1, h => by
    simp only [isImms, Bool.and_eq_true, List.take_succ_cons] at h ⊢
    exact ⟨h.1, isImms_take n h.2⟩
theorem rls_drop {K : PySem.W.Frag} {P : AS} {H : Hp} : ∀ {ds : List D} {vs : List V} (n : Nat), Rls false K P H ds vs E_ → Rls false K P H (ds.drop n) (vs.drop n) E_
  | _, _, 0, h => by simpa using h
  | _, _, _ + 1, .nil => by simpa using Rls.nil
  | _, _, n + 1, .cons r rs s1 s2 dj => rls_drop n (rls_view rs)
theorem rls_take {K : PySem.W.Frag} {P : AS} {H : Hp} : ∀ {ds : List D} {vs : List V} (n : Nat), Rls false K P H ds vs E_ → Rls false K P H (ds.take n) (vs.take n) E_
  | _, _, 0, h => by simpa using Rls.nil
  | _, _, _ + 1, .nil => by simpa using Rls.nil
  | _, _, n + 1, .cons r rs s1 s2 dj => .cons (F1 := E_) (F2 := E_) (rl_view r) (rls_take n (rls_view rs)) (fun _ z => z) (fun _ z => z) fun _ z => z.elim
theorem cut_rls {K : PySem.W.Frag} {P : AS} {H : Hp} {xs : List D} {vs : List V} {lo hi : Option Int} (rs : Rls false K P H xs vs E_) : Rls false K P H (cutD xs lo hi) (cutV vs lo hi) E_ := by
  unfold cutD cutV
  rw [← rls_len rs]
  exact rls_take _ (rls_drop _ rs)
theorem de_slice {e : Expr} {lo hi : Option Expr} {p2 : Pos} {f : Ev → R D} {l u : Ev → R (Option Int)} (h : DE X RX W e f) (hl : DO X RX W lo l) (hu : DO X RX W hi u) : DE X RX W (.Subscript e (.Slice lo hi none p2) pos) (fSl f l u) := by
  refine pe_imp (pe_slice sl_U h hl hu) fun σ H Q q => ?_
  obtain ⟨P, ρ, FE, S, q⟩ := q
  refine ⟨P, ρ, FE, S, ?_⟩
  unfold fSl at q
  cases e : f ρ with
  | exc x ρ1 => simp only [e, R.bind] at q; exact q
  | stk => simp only [e, R.bind] at q
  | ok d ρ1 =>
    simp only [e, R.bind] at q
    intro v P1 H1 FE1 F1 S1 T1 t1
    refine ⟨P1, ρ1, FE1, S1, ?_⟩
    cases e1 : l ρ1 with
    | exc x ρ2 => simp only [e1] at q; exact fun cls dx P2 H2 FE2 S2 t2 r => q cls dx P2 H2 FE2 S2 (t1.less'.trans t2) r
    | stk => simp only [e1] at q
    | ok lo ρ2 =>
      simp only [e1] at q
      intro P2 H2 FE2 S2 t2
      have T2 := (T1.step (F := E_) S1 (t2.less fun b z => z.elim id False.elim)).1
      refine ⟨P2, ρ2, FE2, S2, ?_⟩
      cases e2 : u ρ2 with
      | exc x ρ3 => simp only [e2] at q; exact fun cls dx P3 H3 FE3 S3 t3 r => q cls dx P3 H3 FE3 S3 ((t1.less'.trans t2).trans t3) r
      | stk => simp only [e2] at q
      | ok hi ρ3 =>
        simp only [e2] at q
        intro P3 H3 FE3 S3 t3
        have T3 := (T2.step (F := E_) S2 (t3.less fun b z => z.elim id False.elim)).1
        have tt := (t1.less'.trans t2).trans t3
        have rv := rl_view (F' := E_) T3.rl
        cases e3 : gSl d lo hi with
        | none => simp only [e3, R.of] at q
        | some x =>
          simp only [e3, R.of] at q
          have fin : ∀ u P' H' F, New P3 H3 P' H' F → Rl true X.K P' H' x u F → Q u H' := fun u P' H' F n r => q u P' H' FE3 F (n.stt S3) (n.tmp S3 r) (tt.trans n.tr)
          unfold gSl at e3
          split at e3
          · split at e3
            · rename_i i
              cases e3
              obtain ⟨p, vs, rfl, e, rs⟩ := lst_read rv
              refine .inl ⟨p, vs, rfl, .inl (.inl e), fun a ha => ?_⟩
              obtain ⟨n, r⟩ := new_lst ha S3.pin (isImms_take _ (isImms_drop _ i)) (cut_rls rs)
              exact fin _ _ _ _ n r
            · cases e3
          · split at e3
            · rename_i c
              cases e3
              rw [rl_str T3.rl]
              exact .inr (.inl ⟨_, rfl, c, fin _ P3 H3 E_ New.refl .str⟩)
            · cases e3
          · split at e3
            · rename_i c
              cases e3
              obtain ⟨p, vs, rfl, e, _, rs⟩ := tup_read rv
              refine .inr (.inr ⟨p, vs, rfl, .inl (.inl e), by rw [← rls_len rs]; exact c.2, fun a ha => ?_⟩)
              obtain ⟨n, r⟩ := new_tup ha (isImms_take _ (isImms_drop _ c.1)) (cut_rls rs)
              exact fin _ _ _ _ n r
            · cases e3
          · cases e3
end
end Hap
namespace Hap
open PySem PySem.Spec PyProof.Rows L2
variable [TabC]
def fK (d : D) : Ev → R D := fun ρ => .ok d ρ
def vK (d : D) : Ev → Option D := fun _ => some d
def fO0 : Ev → R (Option Int) := fun ρ => .ok none ρ
def fYes : Ev → R Bool := fun ρ => .ok true ρ
def vLst (f : Ev → Option (List D)) : Ev → Option D := fun ρ => (f ρ).bind fun ds => if ds.length ≤ sizeLine then some (.lst true ds) else none
def vTup (f : Ev → Option (List D)) : Ev → Option D := fun ρ => (f ρ).bind fun ds => if ds.length ≤ sizeLine then some (.tup ds) else none
/-- taken out of its slot (what is no one's own stays there, too) -/
def takeS (i : Nat) (ρ : Ev) : R D := match ρ[i]? with
  | some (some d) => .ok d (if isImm d = true then ρ else ρ.set i none)
  | _ => .stk
def fMv (i : Nat) : Ev → R D := takeS i
def fConsL (i : Nat) (g : Ev → R (List D)) : Ev → R (List D) := fun ρ => match ρ[i]? with
  | some (some _) => (g ρ).bind fun ds ρ2 => (takeS i ρ2).bind fun d ρ3 => .ok (d :: ds) ρ3
  | _ => .stk
/-- the left operand a name, looked at behind the right one -/
def fOp2L (g : D → D → Option D) (i : Nat) (k : Ev → R D) : Ev → R D := fun ρ => match ρ[i]? with
  | some (some _) => (k ρ).bind fun e ρ1 => (match ρ1[i]? with
    | some (some d) => R.of (g d e) ρ1
    | _ => .stk)
  | _ => .stk
section
variable {K : PySem.W.Frag} {P : AS} {H : Hp} {FE : FP} {ρ : Ev} {σ : L2.St}
theorem Stt.take {i : Nat} {d : D} (S : Stt K P H ρ σ FE) (e : ρ[i]? = some (some d)) (hi : isImm d = false) : Stt K P H (ρ.set i none) σ (fun j b => j ≠ i ∧ FE j b) ∧
    ∃ v, σ[i]? = some (some v) ∧ Tmp K P H (fun j b => j ≠ i ∧ FE j b) d v (FE i) := by
  obtain ⟨v, ev, r⟩ := S.rel i d e
  refine ⟨⟨S.pin, fun j b q => S.fin j b q.2, fun j k b q w => S.dj j k b q.2 w.2, fun j d' e' => ?_, by simpa using S.len, S.tab⟩, v, ev, r, fun b q => ⟨(S.fin i b q).1, (S.fin i b q).2, fun ⟨j, w⟩ => w.1 (S.dj j i b w.2 q)⟩⟩
  by_cases hj : j = i
  · subst hj
    have hl : j < ρ.length := (List.getElem?_eq_some_iff.mp e).1
    rw [List.getElem?_set_self hl] at e'
    cases e'
  · rw [List.getElem?_set_ne (Ne.symm hj)] at e'
    obtain ⟨w, e1, r1⟩ := S.rel j d' e'
    exact ⟨w, e1, rl_mono r1 (fun _ q => q) (fun _ _ e _ _ => e) fun b q => ⟨hj, q⟩⟩
/-- a slot's thing is taken -/
theorem takeS_ok {i : Nat} {d : D} {ρ1 : Ev} (S : Stt K P H ρ σ FE) (e : takeS i ρ = .ok d ρ1) : ∃ v FE' F, σ[i]? = some (some v) ∧ Stt K P H ρ1 σ FE' ∧ Tmp K P H FE' d v F ∧ (∀ b, U FE' b ∨ F b → U FE b) := by
  unfold takeS at e
  split at e
  · rename_i d' e0
    cases e
    by_cases hi : isImm d = true
    · rw [if_pos hi]
      obtain ⟨v, ev, r⟩ := S.rel i d e0
      exact ⟨v, FE, E_, ev, S, ⟨rl_imm r hi, fun b z => z.elim⟩, fun b z => z.elim id False.elim⟩
    · rw [if_neg hi]
      obtain ⟨S2, v, ev, T⟩ := S.take e0 (by simpa using hi)
      exact ⟨v, _, FE i, ev, S2, T, fun b z => z.elim (fun ⟨j, w⟩ => ⟨j, w.2⟩) fun w => ⟨i, w⟩⟩
  · cases e
end
section
variable {X : Cx} {RX : RXR} {W : WX} {e : Expr} {es : List Expr} {pos : Pos}
theorem de_k {v : V} {d : D} (h : PE X e (tC v)) (r : ∀ P H, Rl true X.K P H d v E_) : DE X RX W e (fK d) := de_con h r
theorem dv_k {v : V} {d : D} (h : PE X e (tC v)) (r : ∀ P H, Rl true X.K P H d v E_) : DV X e (vK d) := dv_con h r
theorem do_0 : DO X RX W none fO0 := do_none
theorem dts_0 : PTs X [] (tT X.K RX W fYes) := dts_nil
theorem dv_lst {f : Ev → Option (List D)} (h : DAV X es f) : DV X (.List es pos) (vLst f) := by
  refine pe_imp (pe_lst h) fun σ H Q q => ?_
  obtain ⟨P, ρ, FE, S, q⟩ := q
  refine ⟨P, ρ, FE, S, ?_⟩
  unfold vLst at q
  cases e : f ρ with
  | none => simp only [e, Option.bind] at q
  | some ds =>
    simp only [e, Option.bind] at q
    intro vs P1 H1 n1 r1
    by_cases c : ds.length ≤ sizeLine
    · simp only [if_pos c] at q
      refine ⟨by rw [← rls_len r1]; exact c, fun a ha => ?_⟩
      have n : New P1 H1 P1 (upd H1 a (.lst vs)) (fun b => b = a) := New.lst ha (n1.stt S).pin
      exact q (.ref a) P1 _ (n1.trans_ n.less_) (.lstO (F' := E_) upd_same (fun z => by cases z) (fun b z => z.elim) (rls_mono r1 (fun _ q => q) (fun b o e _ => n.same b o e) fun _ q => q))
    · simp only [if_neg c] at q
theorem dv_tup {f : Ev → Option (List D)} {x1} (h : DAV X es f) : DV X (.Tuple es x1 pos) (vTup f) := by
  refine pe_imp (pe_tup h) fun σ H Q q => ?_
  obtain ⟨P, ρ, FE, S, q⟩ := q
  refine ⟨P, ρ, FE, S, ?_⟩
  unfold vTup at q
  cases e : f ρ with
  | none => simp only [e, Option.bind] at q
  | some ds =>
    simp only [e, Option.bind] at q
    intro vs P1 H1 n1 r1
    by_cases c : ds.length ≤ sizeLine
    · simp only [if_pos c] at q
      refine ⟨by rw [← rls_len r1]; exact c, fun a ha => ?_⟩
      have n : New P1 H1 (fun b => P1 b ∨ b = a) (upd H1 a (.tup vs)) E_ := New.tup ha
      exact q (.ref a) _ _ (n1.trans_ n) (.tup upd_same (.inr rfl) (rls_mono r1 (fun _ q => .inl q) (fun b o e _ => n.same b o e) fun _ q => q))
    · simp only [if_neg c] at q
theorem de_mv {i : Nat} (h : PE X e (tVar i)) : DE X RX W e (fMv i) := by
  refine pe_imp h fun σ H Q q => ?_
  obtain ⟨P, ρ, FE, S, q⟩ := q
  unfold fMv at q
  cases e : takeS i ρ with
  | exc x ρ1 => simp only [takeS] at e; split at e <;> cases e
  | stk => simp only [e] at q
  | ok d ρ1 =>
    simp only [e] at q
    obtain ⟨v, FE', F, ev, S', T, hU⟩ := takeS_ok S e
    exact ⟨v, ev, q v P H FE' F S' T (Tr.refl.less hU)⟩
theorem da_consL {i : Nat} {g : Ev → R (List D)} (h : PE X e (tVar i)) (t : DA X RX W es g) (hs : starEach (e :: es) X.env = (false, eval e X.env) :: starEach es X.env := by rfl) : DA X RX W (e :: es) (fConsL i g) := by
  refine pa_imp (pa_cons h t hs) fun σ H Q q => ?_
  obtain ⟨P, ρ, FE, S, q⟩ := q
  unfold fConsL at q
  cases e0 : ρ[i]? with
  | none => simp only [e0] at q
  | some o =>
    cases o with
    | none => simp only [e0] at q
    | some d0 =>
      simp only [e0] at q
      obtain ⟨v, ev, _⟩ := S.rel i d0 e0
      refine ⟨v, ev, P, ρ, FE, S, ?_⟩
      cases e1 : g ρ with
      | exc x ρ1 => simp only [e1, R.bind] at q; exact q
      | stk => simp only [e1, R.bind] at q
      | ok ds ρ2 =>
        simp only [e1, R.bind] at q
        intro vs P2 H2 FE2 F2 S2 T2 t2
        cases e2 : takeS i ρ2 with
        | exc x ρ1 => simp only [takeS] at e2; split at e2 <;> cases e2
        | stk => simp only [e2] at q
        | ok d ρ3 =>
          simp only [e2] at q
          obtain ⟨v', FE', F, ev', S', T, hU⟩ := takeS_ok S2 e2
          rw [ev] at ev'; cases ev'
          refine q (v :: vs) P2 H2 FE' (fun b => F b ∨ F2 b) S' ⟨.cons T.rl T2.rl (fun b z => .inl z) (fun b z => .inr z) (fun b z w => (T2.own b w).2.2 (hU b (.inr z))), fun b z => z.elim (T.own b) fun z => ⟨(T2.own b z).1, (T2.own b z).2.1, fun w => (T2.own b z).2.2 (hU b (.inl w))⟩⟩ (t2.less fun b z => ?_)
          rcases z with z | z | z
          · exact .inl (hU b (.inl z))
          · exact .inl (hU b (.inr z))
          · exact .inr z
theorem e_op2L {K : PySem.W.Frag} {r : R2} {g : D → D → Option D} {i : Nat} {k : Ev → R D} (hv : VOp2 K r g) {σ : L2.St} {H : Hp} {Q : VK} (h : tE K RX W (fOp2L g i k) σ H Q) : tVar i σ H (fun v H1 => tE K RX W k σ H1 fun w H2 => r v w H2 Q) := by
  obtain ⟨P, ρ, FE, S, h⟩ := h
  unfold fOp2L at h
  cases e0 : ρ[i]? with
  | none => simp only [e0] at h
  | some o =>
    cases o with
    | none => simp only [e0] at h
    | some d0 =>
      simp only [e0] at h
      obtain ⟨v, ev, _⟩ := S.rel i d0 e0
      refine ⟨v, ev, P, ρ, FE, S, ?_⟩
      cases e1 : k ρ with
      | exc x ρ1 => simp only [e1, R.bind] at h; exact h
      | stk => simp only [e1, R.bind] at h
      | ok d' ρ1 =>
        simp only [e1, R.bind] at h
        intro w P1 H1 FE1 F1 S1 T1 t1
        cases e2 : ρ1[i]? with
        | none => simp only [e2] at h
        | some o =>
          cases o with
          | none => simp only [e2] at h
          | some d =>
            simp only [e2] at h
            obtain ⟨v', ev', r⟩ := S1.rel i d e2
            rw [ev] at ev'; cases ev'
            cases e3 : g d d' with
            | none => simp only [e3, R.of] at h
            | some x =>
              simp only [e3, R.of] at h
              exact hv P1 H1 d d' v w x Q S1.pin (rl_view r) (rl_view T1.rl) e3 fun u P2 H2 F2 n r => h u P2 H2 FE1 F2 (n.stt S1) (n.tmp S1 r) (t1.less'.trans n.tr)
variable {a b : Expr}
theorem dt_cmpL {op : CmpOp} {r : R2} {g : D → D → Option D} {i : Nat} {k : Ev → R D} (ho : OpR X (compareOp op) r) (hv : VOp2 X.K r g) (ha : PE X a (tVar i)) (hb : DE X RX W b k) (hm : behindInMarks op b = false) : DT X RX W (.Compare a [op] [b] pos) (fTb (fOp2L g i k)) :=
  pt_imp (pt_cmpR ho ha hb hm) fun σ H Q q => e_op2L hv (t_val q)
end
section
variable {X : Cx} {x : Str} {pos : Pos}
theorem pe_globS {t : Str} (hg : Gl X x) (h : ∃ k, X.mg x = some (.str t k)) (hd : (x == ("__debug__" : Str)) = false := by decide) : PE X (.Name x pos) (tC (.str t)) := by
  obtain ⟨k, h⟩ := h
  exact pe_glob hg h ⟨k, rfl⟩ hd
theorem pe_globI {i : Int} (hg : Gl X x) (h : ∃ k, X.mg x = some (.int i k)) (hd : (x == ("__debug__" : Str)) = false := by decide) : PE X (.Name x pos) (tC (.int i)) := by
  obtain ⟨k, h⟩ := h
  exact pe_glob hg h ⟨k, rfl⟩ hd
end
structure Cal (P : Program) (w : World) (K : PySem.W.Frag) (mg : Str → Option Value) (base : Heap) (RX : RXR) (x : Str) (k : Nat) (io : List Bool) (sem : Fn) : Prop where
  ex : ∃ f fd ps, FnOk P w K mg base (L2N.CX P w) k f fd ps (spD K RX io sem) ∧ mg x = some (.ref f) ∧ PySem.W.keepIn K (.ref f) = true ∧ Binds K fd ps []
theorem room65 {k : Nat} {A : Around} (r : Room k A) : A.units + 65 < cLine := by have := r.un; omega
theorem room64 {k : Nat} {A : Around} (r : Room k A) : A.units + 64 < cLine := by have := r.un; omega
theorem room1 {k : Nat} {A : Around} (r : Room k A) : A.units + 1 < cLine := by have := r.un; omega
section
variable {X : Cx} {RX : RXR} {W : WX} {k j n : Nat} {sem : Fn} {x : Str} {p pos : Pos} {e : Expr} {es : List Expr} {fa : Ev → R (List D)}
theorem de_callC (C : Cal X.prog X.w X.K X.mg X.base RX x j (List.replicate n false) sem) (hr : Room k X.A) (hj : j ≤ k) (hg : Gl X x) (tk : L2N.Takes X W) (ha : DA X RX W (e :: es) fa) (hdb : (x == ("__debug__" : Str)) = false := by decide)
    (he : starEach (e :: es) X.env = (false, eval e X.env) :: starEach es X.env := by rfl) (hpl : (backTo pos (starEach es X.env)).any (·.1) = false := by rfl) : DE X RX W (.Call (.Name x p) (e :: es) [] pos) (fCall n sem fa) := by
  obtain ⟨f, fd, ps, F, hm, hk, hb⟩ := C.ex
  exact de_call F (hr.mono hj) hg hm hk hb tk ha hdb he hpl
theorem de_callIOC {i m : Nat} (C : Cal X.prog X.w X.K X.mg X.base RX x j (true :: List.replicate m false) sem) (hr : Room k X.A) (hj : j ≤ k) (hg : Gl X x) (tk : L2N.Takes X W) (hv : PE X e (tVar i)) (ha : DA X RX W es fa) (hdb : (x == ("__debug__" : Str)) = false := by decide)
    (he : starEach (e :: es) X.env = (false, eval e X.env) :: starEach es X.env := by rfl) (hpl : (backTo pos (starEach es X.env)).any (·.1) = false := by rfl) : DE X RX W (.Call (.Name x p) (e :: es) [] pos) (fCallIO i (m + 1) sem fa) := by
  obtain ⟨f, fd, ps, F, hm, hk, hb⟩ := C.ex
  exact de_callIO F (hr.mono hj) hg hm hk hb tk hv ha hdb he hpl
end
end Hap
namespace Hap
open PySem PySem.Spec PyProof.Rows L2
variable [TabC]
theorem rls_ints {z : Bool} {K : PySem.W.Frag} {P : AS} {H : Hp} {F : AS} : ∀ ns : List Int, Rls z K P H (ns.map D.int) (ns.map V.int) F
  | [] => .nil
  | n :: ns => .cons (F1 := fun _ => False) (F2 := fun _ => False) .int (rls_ints ns) (fun b z => z.elim) (fun b z => z.elim) fun b z => z.elim
theorem imms_ints : ∀ ns : List Int, isImms (ns.map D.int) = true
  | [] => rfl
  | n :: ns => by
    show (isImm (.int n) && isImms (ns.map D.int)) = true
    rw [imms_ints ns]; rfl
theorem law_sp {K : PySem.W.Frag} {RX : RXR} {sem : Fn} {a : Addr} {ns : List Int} {H : Hp} (hT : NdefX.TabsN TabC.T H) (hS : SqL K H a (ns.map V.int)) (h : ∃ o, sem [.rol (ns.map D.int)] = .rt (.bl true) o) :
    spD K RX (List.replicate 1 false) sem [.ref a] H (fun v _ => v = .bl true) fun _ _ _ => False := by
  obtain ⟨o, h⟩ := h
  have hR : Rol K H (fun b => H b ≠ none) a (ns.map V.int) := by
    rcases hS with (h1 | ⟨o1, h1⟩) | h1
    · exact .inl ⟨by show H a ≠ none; rw [h1]; simp, .inl h1⟩
    · exact .inl ⟨by show H a ≠ none; rw [h1]; simp, .inr ⟨o1, h1⟩⟩
    · exact .inr h1
  refine ⟨rfl, fun b => H b ≠ none, [.rol (ns.map D.int)], fun _ => E_, ⟨fun b z => z, fun i b z => z.elim, fun i j b z => z.elim, fun i d e => ?_, rfl, TAB.all hT⟩, fun i _ b z => z.elim, ?_⟩
  · match i, e with
    | 0, e =>
      cases e
      exact ⟨_, rfl, .rol hR (imms_ints ns) (rls_ints ns)⟩
    | i + 1, e => simp at e
  · simp only [h]
    intro v P' H' FA' F S T t
    cases T.rl
    rfl
theorem hCX0 {P : Program} {w : World} {H : Hp} {s : Shared} {e : Value} {s' : Shared} (h : L2N.CX P w [] H s (fun _ _ _ => False) e s') : False := by
  obtain ⟨_, _, _, _, _, _, _, _, _, _, _, _, z⟩ := h
  exact z.elim
def noTab : TabC := ⟨[], fun _ => 0, fun _ => ⟨default, default, ⟨[], [], none, [], [], none, []⟩, [], ⟨.function, [], false, false, []⟩, [], 0⟩, fun _ => [], ⟨fun _ _ => 0, { strHash := fun _ => 0, shareClass := fun _ => 0, mergeTok := id, idOf := fun _ => 0, idOfShared := fun _ _ => 0, followText := fun _ => false, idOfImm := fun _ => 0 }⟩⟩
end Hap
namespace Hap
open PySem PySem.Spec PyProof.Rows L2
local instance : TabC := noTab
def RS.seq (r : RS) (k : Ev → RS) : RS := match r with
  | .nx ρ' => k ρ'
  | .rt d ρ' => .rt d ρ'
  | .bk ρ' => .bk ρ'
  | .ct ρ' => .ct ρ'
  | .exc x ρ' => .exc x ρ'
  | .stk => .stk
def varR (o : Option (Option D)) (i : Nat) (ρ : Ev) : R D := match o with
  | some (some d) => .ok (frz d) (ρ.set i (some (frz d)))
  | _ => .stk
def varV (o : Option (Option D)) : Option D := match o with
  | some (some d) => some d
  | _ => none
def immR (o : Option D) (ρ : Ev) : R D := match o with
  | some d => if isImm d = true then .ok d ρ else .stk
  | none => .stk
def tgR (o : Option Ev) (k : Ev → RS) : RS := match o with
  | some ρ => k ρ
  | none => .stk
def blV (o : Option D) (ρ : Ev) : R Bool := match o with
  | some (.bl b) => .ok b ρ
  | _ => .stk
def takeR (o : Option (Option D)) (i : Nat) (ρ : Ev) : R D := match o with
  | some (some d) => .ok d (if isImm d = true then ρ else ρ.set i none)
  | _ => .stk
def rfOf (io : List Bool) (r : RS) : RF := match r with
  | .nx ρ => .rt .non (outsOf io ρ)
  | .rt d ρ => .rt d (outsOf io ρ)
  | .exc x ρ => .exc x (outsOf io ρ)
  | _ => .stk
section
variable {α β : Type} {ρ ρ' : Ev} {d : D} {x : DX}
theorem semOf_ap {io n g} {ds : List D} : semOf io n g ds = rfOf io (g (ds.map some ++ List.replicate (n - ds.length) none)) := by
  unfold semOf rfOf; rfl
@[simp] theorem rfOf_nx {io} : rfOf io (.nx ρ) = .rt .non (outsOf io ρ) := (rfl)
@[simp] theorem rfOf_rt {io} : rfOf io (.rt d ρ) = .rt d (outsOf io ρ) := (rfl)
@[simp] theorem rfOf_exc {io} : rfOf io (.exc x ρ) = .exc x (outsOf io ρ) := (rfl)
@[simp] theorem outsOf_nil {ρ} : outsOf [] ρ = [] := (rfl)
@[simp] theorem outsOf_t {bs o os} : outsOf (true :: bs) (o :: os) = o :: outsOf bs os := (rfl)
@[simp] theorem outsOf_f {bs o os} : outsOf (false :: bs) (o :: os) = none :: outsOf bs os := (rfl)
@[simp] theorem bind_ok {a : α} {f : α → Ev → R β} : (R.ok a ρ).bind f = f a ρ := (rfl)
@[simp] theorem bind_exc {f : α → Ev → R β} : (R.exc x ρ : R α).bind f = .exc x ρ := (rfl)
@[simp] theorem bind_stk {f : α → Ev → R β} : (R.stk : R α).bind f = .stk := (rfl)
@[simp] theorem of_some {a : α} : R.of (some a) ρ = .ok a ρ := (rfl)
@[simp] theorem rsof_ok {a : α} {k : α → Ev → RS} : RS.of (.ok a ρ) k = k a ρ := (rfl)
@[simp] theorem rsof_exc {k : α → Ev → RS} : RS.of (.exc x ρ) k = .exc x ρ := (rfl)
@[simp] theorem seq_nx {k : Ev → RS} : RS.seq (.nx ρ) k = k ρ := (rfl)
@[simp] theorem seq_rt {k : Ev → RS} : RS.seq (.rt d ρ) k = .rt d ρ := (rfl)
@[simp] theorem seq_exc {k : Ev → RS} : RS.seq (.exc x ρ) k = .exc x ρ := (rfl)
@[simp] theorem seq_bk {k : Ev → RS} : RS.seq (.bk ρ) k = .bk ρ := (rfl)
@[simp] theorem seq_ct {k : Ev → RS} : RS.seq (.ct ρ) k = .ct ρ := (rfl)
@[simp] theorem varR_s {i : Nat} : varR (some (some d)) i ρ = .ok (frz d) (ρ.set i (some (frz d))) := (rfl)
@[simp] theorem varV_s : varV (some (some d)) = some d := (rfl)
@[simp] theorem immR_s : immR (some d) ρ = if isImm d = true then .ok d ρ else .stk := (rfl)
@[simp] theorem tgR_s {k : Ev → RS} : tgR (some ρ) k = k ρ := (rfl)
@[simp] theorem blV_s {b : Bool} : blV (some (.bl b)) ρ = .ok b ρ := (rfl)
@[simp] theorem takeR_s {i : Nat} : takeR (some (some d)) i ρ = .ok d (if isImm d = true then ρ else ρ.set i none) := (rfl)
@[simp] theorem asB_s {b : Bool} : asB (.bl b) ρ = .ok b ρ := (rfl)
@[simp] theorem callR_rt {o : Ev} {u : Ev → Ev} : callR (.rt d o) ρ u = .ok d (u o) := (rfl)
@[simp] theorem callR_exc {o : Ev} {u : Ev → Ev} : callR (.exc x o) ρ u = .exc x (u o) := (rfl)
@[simp] theorem hd0_c {o : Option D} {os : Ev} : hd0 (o :: os) = o := (rfl)
@[simp] theorem ap_next : fNext ρ = .nx ρ := (rfl)
@[simp] theorem ap_seq {g k : Ev → RS} : fSeq g k ρ = RS.seq (g ρ) k := (rfl)
@[simp] theorem ap_ret {f : Ev → R D} : fRet f ρ = RS.of (f ρ) .rt := (rfl)
@[simp] theorem ap_drop {f : Ev → R D} : fDrop f ρ = RS.of (f ρ) fun _ ρ' => .nx ρ' := (rfl)
@[simp] theorem ap_if {c : Ev → R Bool} {g k : Ev → RS} : fIf c g k ρ = RS.of (c ρ) fun b ρ' => if b = true then g ρ' else k ρ' := (rfl)
@[simp] theorem ap_asg {f : Ev → R D} {t} : fAsg f t ρ = RS.of (f ρ) fun d ρ' => tgR (t d ρ') .nx := by
  unfold fAsg tgR; rfl
@[simp] theorem ap_gN {i : Nat} : gN i d ρ = some (ρ.set i (some d)) := (rfl)
@[simp] theorem ap_gsN : gsN [] ρ = some ρ := (rfl)
@[simp] theorem ap_gsC {t u} {ds : List D} : gsC t u (d :: ds) ρ = (t d ρ).bind (u ds) := by
  unfold gsC; dsimp only; cases t d ρ <;> rfl
@[simp] theorem ap_gT {n u} {ds : List D} : gT n u (.tup ds) ρ = if ds.length = n then u ds ρ else none := (rfl)
@[simp] theorem ap_for {f t g} : fFor f t g ρ = RS.of (f ρ) (loopS (stepS t g)) := (rfl)
theorem ap_step {t g} : stepS t g d ρ = tgR (t d ρ) g := by
  unfold stepS tgR; rfl
@[simp] theorem ap_it {g : D → Option (List D)} {f : Ev → R D} : fIt g f ρ = (f ρ).bind fun d ρ' => R.of (g d) ρ' := (rfl)
@[simp] theorem ap_itN {g : List D → Option (List D)} {f : Ev → R (List D)} : fItN g f ρ = (f ρ).bind fun d ρ' => R.of (g d) ρ' := (rfl)
@[simp] theorem ap_var {i : Nat} : fVar i ρ = varR ρ[i]? i ρ := by unfold fVar varR; rfl
@[simp] theorem ap_vvar {i : Nat} : vVar i ρ = varV ρ[i]? := by unfold vVar varV; rfl
@[simp] theorem ap_I {f : Ev → Option D} : fI f ρ = immR (f ρ) ρ := by unfold fI immR; rfl
@[simp] theorem ap_nil : fNil ρ = .ok [] ρ := (rfl)
@[simp] theorem ap_cons {f g} : fCons f g ρ = (f ρ).bind fun d ρ1 => (g ρ1).bind fun ds ρ2 => .ok (d :: ds) ρ2 := (rfl)
@[simp] theorem ap_vnil : vNil ρ = some [] := (rfl)
@[simp] theorem ap_vcons {f g} : vCons f g ρ = (f ρ).bind fun d => (g ρ).bind fun ds => some (d :: ds) := (rfl)
@[simp] theorem ap_op1 {g f} : fOp1 g f ρ = (f ρ).bind fun d ρ' => R.of (g d) ρ' := (rfl)
@[simp] theorem ap_op2 {g f h} : fOp2 g f h ρ = (f ρ).bind fun d ρ1 => (h ρ1).bind fun e ρ2 => R.of (g d e) ρ2 := (rfl)
@[simp] theorem ap_op2V {g f h} : fOp2V g f h ρ = (f ρ).bind fun d ρ1 => R.of ((h ρ1).bind (g d)) ρ1 := (rfl)
@[simp] theorem ap_opN {g f} : fOpN g f ρ = (f ρ).bind fun ds ρ' => R.of (g ds) ρ' := (rfl)
@[simp] theorem ap_v1 {g f} : vOp1 g f ρ = (f ρ).bind g := (rfl)
@[simp] theorem ap_v2 {g f h} : vOp2 g f h ρ = (f ρ).bind fun d => (h ρ).bind (g d) := (rfl)
@[simp] theorem ap_vN {g f} : vOpN g f ρ = (f ρ).bind g := (rfl)
@[simp] theorem ap_k : fK d ρ = .ok d ρ := (rfl)
@[simp] theorem ap_vk : vK d ρ = some d := (rfl)
@[simp] theorem ap_o0 : fO0 ρ = .ok none ρ := (rfl)
@[simp] theorem ap_yes : fYes ρ = .ok true ρ := (rfl)
@[simp] theorem ap_vlst {f} : vLst f ρ = (f ρ).bind fun ds => if ds.length ≤ sizeLine then some (.lst true ds) else none := (rfl)
@[simp] theorem ap_vtup {f} : vTup f ρ = (f ρ).bind fun ds => if ds.length ≤ sizeLine then some (.tup ds) else none := (rfl)
@[simp] theorem ap_lst {f} : fLst f ρ = (f ρ).bind fun ds ρ1 => if ds.length ≤ sizeLine then .ok (.lst true ds) ρ1 else .stk := (rfl)
@[simp] theorem ap_tup {f} : fTup f ρ = (f ρ).bind fun ds ρ1 => if ds.length ≤ sizeLine then .ok (.tup ds) ρ1 else .stk := (rfl)
@[simp] theorem ap_takeS {i : Nat} : takeS i ρ = takeR ρ[i]? i ρ := by unfold takeS takeR; rfl
@[simp] theorem ap_mv {i : Nat} : fMv i ρ = takeR ρ[i]? i ρ := ap_takeS
def isS {β : Type} (o : Option (Option D)) (k : D → R β) : R β := match o with
  | some (some d) => k d
  | _ => .stk
@[simp] theorem isS_s {k : D → R β} : isS (some (some d)) k = k d := (rfl)
@[simp] theorem ap_consL {i : Nat} {g} : fConsL i g ρ = isS ρ[i]? fun _ => (g ρ).bind fun ds ρ2 => (takeS i ρ2).bind fun d ρ3 => .ok (d :: ds) ρ3 := by
  unfold fConsL isS; rfl
@[simp] theorem ap_op2L {i : Nat} {g k} : fOp2L g i k ρ = isS ρ[i]? fun _ => (k ρ).bind fun e ρ1 => isS ρ1[i]? fun d => R.of (g d e) ρ1 := by
  unfold fOp2L isS; rfl
@[simp] theorem ap_ixE {i : Nat} {k} : fIxE i k ρ = isS ρ[i]? fun _ => (k ρ).bind fun e ρ1 => isS ρ1[i]? fun d => R.of (gIxI d e) ρ1 := by
  unfold fIxE isS; rfl
@[simp] theorem ap_tb {f} : fTb f ρ = (f ρ).bind asB := (rfl)
@[simp] theorem ap_tv {f} : fTv f ρ = blV (f ρ) ρ := by unfold fTv blV; rfl
@[simp] theorem ap_and {f g : Ev → R Bool} : fAnd f g ρ = (f ρ).bind fun b ρ1 => if b = true then g ρ1 else .ok false ρ1 := (rfl)
@[simp] theorem ap_or {f g : Ev → R Bool} : fOr f g ρ = (f ρ).bind fun b ρ1 => if b = true then .ok true ρ1 else g ρ1 := (rfl)
@[simp] theorem ap_not {f : Ev → R Bool} : fNot f ρ = (f ρ).bind fun b ρ1 => .ok (!b) ρ1 := (rfl)
@[simp] theorem ap_andD {f g : Ev → R D} : fAndD f g ρ = (f ρ).bind fun d ρ1 => (asB d ρ1).bind fun b ρ1 => if b = true then g ρ1 else .ok (.bl false) ρ1 := by
  unfold fAndD asB; cases f ρ with
  | ok d ρ1 => cases d <;> rfl
  | exc => rfl
  | stk => rfl
@[simp] theorem ap_orD {f g : Ev → R D} : fOrD f g ρ = (f ρ).bind fun d ρ1 => (asB d ρ1).bind fun b ρ1 => if b = true then .ok (.bl true) ρ1 else g ρ1 := by
  unfold fOrD asB; cases f ρ with
  | ok d ρ1 => cases d <;> rfl
  | exc => rfl
  | stk => rfl
@[simp] theorem ap_notD {f : Ev → R D} : fNotD f ρ = (f ρ).bind fun d ρ1 => (asB d ρ1).bind fun b ρ1 => .ok (.bl (!b)) ρ1 := by
  unfold fNotD asB; cases f ρ with
  | ok d ρ1 => cases d <;> rfl
  | exc => rfl
  | stk => rfl
@[simp] theorem ap_ifE {c f g} : fIfE c f g ρ = (c ρ).bind fun b ρ1 => if b = true then f ρ1 else g ρ1 := (rfl)
def chR (o : Option D) (k : Bool → R D) : R D := match o with
  | some (.bl b) => k b
  | _ => .stk
@[simp] theorem chR_s {b : Bool} {k} : chR (some (.bl b)) k = k b := (rfl)
@[simp] theorem ap_chain {g g' : D → D → Option D} {fa fb fc : Ev → R D} : fChain g g' fa fb fc ρ = (fa ρ).bind fun a ρ1 => (fb ρ1).bind fun b ρ2 => chR (g a b) fun k => if k = true then (fc ρ2).bind fun c ρ3 => R.of (g' b c) ρ3 else .ok (.bl false) ρ2 := by
  unfold fChain chR; rfl
@[simp] theorem ap_call {n sem fa} : fCall n sem fa ρ = (fa ρ).bind fun ds ρ1 => if ds.length = n then callR (sem (frzs ds)) ρ1 fun _ => ρ1 else .stk := (rfl)
@[simp] theorem ap_callIO {j n sem fa} : fCallIO j n sem fa ρ = isS ρ[j]? fun _ => (fa ρ).bind fun ds ρ1 => isS ρ1[j]? fun d0 => if ds.length + 1 = n then callR (sem (d0 :: frzs ds)) ρ1 fun outs => ρ1.set j (hd0 outs) else .stk := by
  unfold fCallIO isS; rfl
@[simp] theorem ap_meth {ty g fo fa} : fMeth ty g fo fa ρ = (fo ρ).bind fun d ρ1 => if ty d = true then (fa ρ1).bind fun ds ρ2 => R.of (g d ds) ρ2 else .stk := (rfl)
@[simp] theorem ap_sl {f l u} : fSl f l u ρ = (f ρ).bind fun d ρ1 => (l ρ1).bind fun lo ρ2 => (u ρ2).bind fun hi ρ3 => R.of (gSl d lo hi) ρ3 := (rfl)
def intO (d : D) (ρ : Ev) : R (Option Int) := match d with
  | .int i => .ok (some i) ρ
  | _ => .stk
@[simp] theorem intO_s {i : Int} : intO (.int i) ρ = .ok (some i) ρ := (rfl)
@[simp] theorem ap_O {f} : fO f ρ = (f ρ).bind intO := by unfold fO intO; rfl
def appS (o : Option (Option D)) (i : Nat) (d : D) (ρ : Ev) : RS := match o with
  | some (some (.lst true xs)) => if xs.length < sizeLine then .nx (ρ.set i (some (.lst true (xs ++ [d])))) else .stk
  | _ => .stk
@[simp] theorem appS_s {i : Nat} {xs : List D} : appS (some (some (.lst true xs))) i d ρ = if xs.length < sizeLine then .nx (ρ.set i (some (.lst true (xs ++ [d])))) else .stk := (rfl)
def isLs (o : Option (Option D)) (k : RS) : RS := match o with
  | some (some (.lst _ _)) => k
  | _ => .stk
@[simp] theorem isLs_s {b : Bool} {xs : List D} {k : RS} : isLs (some (some (.lst b xs))) k = k := (rfl)
def one1 (ds : List D) (k : D → RS) : RS := match ds with
  | [d] => k d
  | _ => .stk
@[simp] theorem one1_s {k : D → RS} : one1 [d] k = k d := (rfl)
@[simp] theorem ap_append {i : Nat} {f} : fAppend i f ρ = isLs ρ[i]? (RS.of (f ρ) fun ds ρ1 => one1 ds fun d => appS ρ1[i]? i d ρ1) := by
  unfold fAppend isLs one1 appS; rfl
def setS (o : Option (Option D)) (i : Nat) (d e : D) (ρ : Ev) : RS := match e with
  | .int n => (match o with
    | some (some (.lst true xs)) => (match ixN xs.length n with
      | some j => .nx (ρ.set i (some (.lst true (xs.set j d))))
      | none => .stk)
    | _ => .stk)
  | _ => .stk
def isSS (o : Option (Option D)) (k : RS) : RS := match o with
  | some (some _) => k
  | _ => .stk
@[simp] theorem isSS_s {k : RS} : isSS (some (some d)) k = k := (rfl)
@[simp] theorem ap_setL {i : Nat} {f k} : fSetL i f k ρ = RS.of (f ρ) fun d ρ1 => isSS ρ1[i]? (RS.of (k ρ1) fun e ρ2 => setS ρ2[i]? i d e ρ2) := by
  unfold fSetL isSS setS; rfl
theorem setS_n {i j : Nat} {xs : List D} (h : j < xs.length) : setS (some (some (.lst true xs))) i d (.int j) ρ = .nx (ρ.set i (some (.lst true (xs.set j d)))) := by
  unfold setS
  have : ixN xs.length (j : Int) = some j := by unfold ixN; rw [if_pos (by omega), if_pos (by omega)]; simp
  simp only [this]
def augS (o : Option D) (i : Nat) (ρ : Ev) : RS := match o with
  | some x => .nx (ρ.set i (some x))
  | none => .stk
@[simp] theorem augS_s {i : Nat} : augS (some d) i ρ = .nx (ρ.set i (some d)) := (rfl)
def isIm (o : Option (Option D)) (k : D → RS) : RS := match o with
  | some (some d0) => if isImm d0 = true then k d0 else .stk
  | _ => .stk
@[simp] theorem isIm_s {k : D → RS} : isIm (some (some d)) k = if isImm d = true then k d else .stk := (rfl)
@[simp] theorem ap_aug {i : Nat} {g f} : fAug i g f ρ = isIm ρ[i]? fun d0 => RS.of (f ρ) fun d ρ1 => augS (g d0 d) i ρ1 := by
  unfold fAug isIm augS; rfl
end
section
variable {d : D} {ds xs : List D} {o : Bool}
@[simp] theorem frz_int {i} : frz (.int i) = .int i := (rfl)
@[simp] theorem frz_bl {i} : frz (.bl i) = .bl i := (rfl)
@[simp] theorem frz_str {i} : frz (.str i) = .str i := (rfl)
@[simp] theorem frz_non : frz .non = .non := (rfl)
@[simp] theorem frz_gv {v} : frz (.gv v) = .gv v := (rfl)
@[simp] theorem frz_lst : frz (.lst o xs) = .lst false (frzs xs) := (rfl)
@[simp] theorem frz_tup : frz (.tup xs) = .tup (frzs xs) := (rfl)
@[simp] theorem frz_rol : frz (.rol xs) = .rol (frzs xs) := (rfl)
@[simp] theorem frzs_nil : frzs [] = [] := (rfl)
@[simp] theorem frzs_cons : frzs (d :: ds) = frz d :: frzs ds := (rfl)
theorem frzs_map : ∀ ds : List D, frzs ds = ds.map frz
  | [] => rfl
  | d :: ds => by rw [frzs, frzs_map ds]; rfl
@[simp] theorem imm_int {i} : isImm (.int i) = true := (rfl)
@[simp] theorem imm_bl {i} : isImm (.bl i) = true := (rfl)
@[simp] theorem imm_str {i} : isImm (.str i) = true := (rfl)
@[simp] theorem imm_non : isImm .non = true := (rfl)
@[simp] theorem imm_lstO : isImm (.lst true xs) = false := (rfl)
@[simp] theorem imm_lstI : isImm (.lst false xs) = isImms xs := by show (!false && isImms xs) = _; simp
@[simp] theorem imm_tup : isImm (.tup xs) = isImms xs := (rfl)
@[simp] theorem imm_rol : isImm (.rol xs) = isImms xs := (rfl)
@[simp] theorem imms_nil : isImms [] = true := (rfl)
@[simp] theorem imms_cons : isImms (d :: ds) = (isImm d && isImms ds) := (rfl)
theorem imms_all : isImms ds = true ↔ ∀ d ∈ ds, isImm d = true := by
  induction ds with
  | nil => simp
  | cons d ds ih => simp [ih]
theorem imms_map {α : Type} {f : α → D} {xs : List α} (h : ∀ x ∈ xs, isImm (f x) = true) : isImms (xs.map f) = true := by
  rw [imms_all]; intro d hd; obtain ⟨x, hx, rfl⟩ := List.mem_map.mp hd; exact h x hx
theorem frzs_mapf {α : Type} {f g : α → D} {xs : List α} (h : ∀ x ∈ xs, frz (f x) = g x) : frzs (xs.map f) = xs.map g := by
  rw [frzs_map, List.map_map]; exact List.map_congr_left h
@[simp] theorem add_ii {i j} : gAdd (.int i) (.int j) = some (.int (i + j)) := (rfl)
theorem add_ss {x y} : gAdd (.str x) (.str y) = if x.length + y.length ≤ sizeLine then some (.str (x ++ y)) else none := rfl
theorem add_ll {a b xs ys} : gAdd (.lst a xs) (.lst b ys) = if (isImms xs = true ∧ isImms ys = true) ∧ xs.length + ys.length ≤ sizeLine then some (.lst true (xs ++ ys)) else none := rfl
@[simp] theorem sub_ii {i j} : gSub (.int i) (.int j) = some (.int (i - j)) := (rfl)
@[simp] theorem mul_ii {i j} : gMul (.int i) (.int j) = if CMul i j then some (.int (i * j)) else none := (rfl)
@[simp] theorem fdiv_ii {i j} : gFdiv (.int i) (.int j) = if CDivX i j then some (.int (Int.fdiv i j)) else none := (rfl)
@[simp] theorem mod_ii {i j} : gMod (.int i) (.int j) = if j ≠ 0 then some (.int (Int.fmod i j)) else none := (rfl)
@[simp] theorem pow_ii {i j} : gPow (.int i) (.int j) = if CPow i j then some (.int (i ^ j.toNat)) else none := (rfl)
@[simp] theorem shl_ii {i j} : gShl (.int i) (.int j) = if CPow i j then some (.int (i * 2 ^ j.toNat)) else none := (rfl)
@[simp] theorem shr_ii {i j : Int} : gShr (.int i) (.int j) = if 0 ≤ j then some (.int (i / 2 ^ j.toNat)) else none := (rfl)
@[simp] theorem band_ii {i j} : gBand (.int i) (.int j) = some (.int (Builtin.bitAnd i j)) := (rfl)
@[simp] theorem bor_ii {i j} : gBor (.int i) (.int j) = some (.int (Builtin.bitOr i j)) := (rfl)
@[simp] theorem neg_i {i} : gNeg (.int i) = some (.int (-i)) := (rfl)
@[simp] theorem lt_ii {i j : Int} : gLt (.int i) (.int j) = some (.bl (decide (i < j))) := (rfl)
@[simp] theorem le_ii {i j : Int} : gLe (.int i) (.int j) = some (.bl (decide (i ≤ j))) := (rfl)
@[simp] theorem gt_ii {i j : Int} : gGt (.int i) (.int j) = some (.bl (decide (j < i))) := (rfl)
@[simp] theorem ge_ii {i j : Int} : gGe (.int i) (.int j) = some (.bl (decide (j ≤ i))) := (rfl)
@[simp] theorem lt_ss {x y : Str} : gLt (.str x) (.str y) = some (.bl (decide (x.cps.toList < y.cps.toList))) := (rfl)
@[simp] theorem eq_ii {i j : Int} : gEq (.int i) (.int j) = some (.bl (decide (i = j))) := (rfl)
@[simp] theorem eq_bb {i j : Bool} : gEq (.bl i) (.bl j) = some (.bl (decide (i = j))) := (rfl)
@[simp] theorem eq_ss {i j : Str} : gEq (.str i) (.str j) = some (.bl (decide (i = j))) := (rfl)
@[simp] theorem ne_ii {i j : Int} : gNe (.int i) (.int j) = some (.bl (!decide (i = j))) := (rfl)
@[simp] theorem ne_bb {i j : Bool} : gNe (.bl i) (.bl j) = some (.bl (!decide (i = j))) := (rfl)
@[simp] theorem ne_ss {i j : Str} : gNe (.str i) (.str j) = some (.bl (!decide (i = j))) := (rfl)
@[simp] theorem len_l : gLen [.lst o xs] = some (.int xs.length) := (rfl)
@[simp] theorem len_r : gLen [.rol xs] = some (.int xs.length) := (rfl)
@[simp] theorem len_t : gLen [.tup xs] = some (.int xs.length) := (rfl)
@[simp] theorem len_s {x : Str} : gLen [.str x] = if x.length ≤ sizeLine then some (.int x.length) else none := (rfl)
@[simp] theorem abs_i {i : Int} : gAbs [.int i] = some (.int (if i < 0 then -i else i)) := (rfl)
@[simp] theorem max2_i {i j : Int} : gMax2 [.int i, .int j] = some (.int (if j > i then j else i)) := (rfl)
@[simp] theorem min2_i {i j : Int} : gMin2 [.int i, .int j] = some (.int (if j < i then j else i)) := (rfl)
@[simp] theorem items_l : itemsL (.lst o xs) = some (frzs xs) := (rfl)
@[simp] theorem items_r : itemsL (.rol xs) = some xs := (rfl)
@[simp] theorem items_t : itemsT (.tup xs) = some (frzs xs) := (rfl)
@[simp] theorem lstOf_l : lstOf (.lst o xs) = some xs := (rfl)
@[simp] theorem any_l : gAny [.lst o xs] = (boolsD xs).map fun bs => .bl (bs.any id) := (rfl)
@[simp] theorem all_l : gAll [.lst o xs] = (boolsD xs).map fun bs => .bl (bs.all id) := (rfl)
theorem at_nat {α : Type} {xs : List α} {i : Nat} : atI xs (i : Int) = xs[i]? := by
  unfold atI ixN
  by_cases h : i < xs.length
  · rw [if_pos (by omega), if_pos (by omega)]; simp
  · rw [if_pos (by omega), if_neg (by omega), List.getElem?_eq_none (by omega)]; rfl
@[simp] theorem at_0 {α : Type} {xs : List α} : atI xs 0 = xs[0]? := at_nat (i := 0)
@[simp] theorem at_1 {α : Type} {xs : List α} : atI xs 1 = xs[1]? := at_nat (i := 1)
@[simp] theorem at_2 {α : Type} {xs : List α} : atI xs 2 = xs[2]? := at_nat (i := 2)
@[simp] theorem at_3 {α : Type} {xs : List α} : atI xs 3 = xs[3]? := at_nat (i := 3)
@[simp] theorem ix_l {i : Int} : gIx (.lst o xs) (.int i) = atI xs i := (rfl)
@[simp] theorem ix_r {i : Int} : gIx (.rol xs) (.int i) = atI xs i := (rfl)
@[simp] theorem ix_t {i : Int} : gIx (.tup xs) (.int i) = atI xs i := (rfl)
theorem ixI_of {e x : D} (h : gIx d e = some x) (i : isImm x = true) : gIxI d e = some x := by
  unfold gIxI; simp only [h, if_pos i]
end
end Hap
namespace Hap
open PySem PySem.Spec PyProof.Rows L2
local instance : TabC := noTab
theorem bitNot_eq (x : Int) : Builtin.bitNot x = -x - 1 := by
  unfold Builtin.bitNot; omega
theorem band_nn (a b : Nat) : Builtin.bitAnd (a : Int) (b : Int) = ((a &&& b : Nat) : Int) := by
  unfold Builtin.bitAnd
  rw [decide_eq_true (Int.natCast_nonneg a), decide_eq_true (Int.natCast_nonneg b)]
  rfl
theorem bor_nn (a b : Nat) : Builtin.bitOr (a : Int) (b : Int) = ((a ||| b : Nat) : Int) := by
  unfold Builtin.bitOr Builtin.bitAnd
  rw [decide_eq_false (show ¬ 0 ≤ Builtin.bitNot (a : Int) by rw [bitNot_eq]; omega), decide_eq_false (show ¬ 0 ≤ Builtin.bitNot (b : Int) by rw [bitNot_eq]; omega)]
  have e : ∀ x : Int, Builtin.bitNot (Builtin.bitNot x) = x := fun x => by rw [bitNot_eq, bitNot_eq]; omega
  simp only [e]
  rfl
theorem test_1 (a b : Nat) : ((((a >>> b) &&& 1 : Nat) : Int) = 1) ↔ a.testBit b = true := by
  have : (a.testBit b = true) ↔ (1 &&& (a >>> b)) ≠ 0 := by unfold Nat.testBit; simp
  rw [this]
  have h2 : (a >>> b) &&& 1 = (a >>> b) % 2 := Nat.and_one_is_mod _
  have h3 : 1 &&& (a >>> b) = (a >>> b) % 2 := Nat.one_and_eq_mod_two _
  rw [h2, h3]
  omega
theorem cpow_small (i : Int) (j : Nat) (h : j ≤ 1000000) (hi : i.natAbs < 2 ^ 64) : CPow i j := ⟨by omega, by omega, hi⟩
theorem rangeD_eq : ∀ (lo : Int) (n : Nat), rangeD lo n = (List.range n).map fun i => .int (lo + (i : Nat))
  | lo, 0 => rfl
  | lo, n + 1 => by
    rw [rangeD, rangeD_eq (lo + 1) n, List.range_succ_eq_map, List.map_cons, List.map_map]
    congr 1
    · simp
    · apply List.map_congr_left; intro i _; show D.int _ = D.int _; congr 1; simp; omega
theorem rangeD_0 (n : Nat) : rangeD 0 n = (List.range n).map fun i => .int ((i : Nat) : Int) := by
  rw [rangeD_eq]; apply List.map_congr_left; intro i _; simp
theorem rng1_n {n : Nat} (h : n < 2 ^ 60) : rng1 [.int (n : Int)] = some ((List.range n).map fun i => .int ((i : Nat) : Int)) := by
  unfold rng1
  dsimp only
  rw [if_pos ⟨by omega, by omega⟩, Int.toNat_natCast, rangeD_0]
theorem loop_inv {step : D → Ev → RS} (I : Nat → Ev → Prop) : ∀ (ds : List D) (k : Nat) (ρ : Ev), I k ρ → (∀ j d ρ, ds[j]? = some d → I (k + j) ρ → ∃ ρ', step d ρ = .nx ρ' ∧ I (k + j + 1) ρ') → ∃ ρ', loopS step ds ρ = .nx ρ' ∧ I (k + ds.length) ρ'
  | [], k, ρ, h, _ => ⟨ρ, rfl, h⟩
  | d :: ds, k, ρ, h, hs => by
    obtain ⟨ρ1, e, h1⟩ := hs 0 d ρ rfl h
    obtain ⟨ρ', e', h'⟩ := loop_inv I ds (k + 1) ρ1 h1 fun j d ρ hj hI => by
      have := hs (j + 1) d ρ (by simpa using hj) (by rw [show k + (j + 1) = k + 1 + j by omega]; exact hI)
      rwa [show k + (j + 1) + 1 = k + 1 + j + 1 by omega] at this
    refine ⟨ρ', ?_, ?_⟩
    · show (match step d ρ with | .nx ρ' => loopS step ds ρ' | .ct ρ' => loopS step ds ρ' | .bk ρ' => .nx ρ' | .rt d ρ' => .rt d ρ' | .exc x ρ' => .exc x ρ' | .stk => .stk) = _
      rw [e]; exact e'
    · rw [List.length_cons, show k + (ds.length + 1) = k + 1 + ds.length by omega]; exact h'
/-- a loop by an invariant over how many turns were made -/
theorem loop0 {step : D → Ev → RS} {ds : List D} {ρ : Ev} (I : Nat → Ev → Prop) (h : I 0 ρ) (hs : ∀ j d ρ, ds[j]? = some d → I j ρ → ∃ ρ', step d ρ = .nx ρ' ∧ I (j + 1) ρ') : ∃ ρ', loopS step ds ρ = .nx ρ' ∧ I ds.length ρ' := by
  have := loop_inv I ds 0 ρ h (fun j d ρ hj hI => by rw [Nat.zero_add] at hI ⊢; exact hs j d ρ hj hI)
  rwa [Nat.zero_add] at this
/-- .. over a range -/
theorem loopR {step : D → Ev → RS} {n : Nat} {ρ : Ev} (I : Nat → Ev → Prop) (h : I 0 ρ) (hs : ∀ j ρ, j < n → I j ρ → ∃ ρ', step (.int (j : Int)) ρ = .nx ρ' ∧ I (j + 1) ρ') : ∃ ρ', loopS step ((List.range n).map fun i => .int ((i : Nat) : Int)) ρ = .nx ρ' ∧ I n ρ' := by
  have := loop0 (step := step) (ds := (List.range n).map fun i => .int ((i : Nat) : Int)) I h fun j d ρ hj hI => by
    rw [List.getElem?_map] at hj
    by_cases hn : j < n
    · rw [List.getElem?_range hn] at hj
      cases hj
      exact hs j ρ hn hI
    · rw [List.getElem?_eq_none (by simp; omega)] at hj; cases hj
  simpa using this
/-- .. over mapped items -/
theorem loopM {α : Type} {step : D → Ev → RS} {f : α → D} {xs : List α} {ρ : Ev} (I : Nat → Ev → Prop) (h : I 0 ρ) (hs : ∀ j x ρ, xs[j]? = some x → I j ρ → ∃ ρ', step (f x) ρ = .nx ρ' ∧ I (j + 1) ρ') : ∃ ρ', loopS step (xs.map f) ρ = .nx ρ' ∧ I xs.length ρ' := by
  have := loop0 (step := step) (ds := xs.map f) I h fun j d ρ hj hI => by
    rw [List.getElem?_map] at hj
    cases e : xs[j]? with
    | none => rw [e] at hj; cases hj
    | some x => rw [e] at hj; cases hj; exact hs j x ρ e hI
  simpa using this
/-- .. that may leave early by a return -/
def Goes (N : Ev → Prop) (T : D → Ev → Prop) (r : RS) : Prop := (∃ ρ, r = .nx ρ ∧ N ρ) ∨ ∃ d ρ, r = .rt d ρ ∧ T d ρ
theorem loopT {α : Type} {step : D → Ev → RS} {f : α → D} {T : D → Ev → Prop} (I : List α → Ev → Prop) (xs : List α) (ρ : Ev) (h : I xs ρ) (hs : ∀ x xs ρ, I (x :: xs) ρ → Goes (I xs) T (step (f x) ρ)) : Goes (I []) T (loopS step (xs.map f) ρ) := by
  induction xs generalizing ρ with
  | nil => exact .inl ⟨ρ, rfl, h⟩
  | cons x xs ih =>
    show Goes (I []) T (match step (f x) ρ with | .nx ρ' => loopS step (xs.map f) ρ' | .ct ρ' => loopS step (xs.map f) ρ' | .bk ρ' => .nx ρ' | .rt d ρ' => .rt d ρ' | .exc x ρ' => .exc x ρ' | .stk => .stk)
    rcases hs x xs ρ h with ⟨ρ1, e, h1⟩ | ⟨d, ρ1, e, h1⟩
    · rw [e]; exact ih ρ1 h1
    · rw [e]; exact .inr ⟨d, ρ1, rfl, h1⟩
theorem wipe_len : ∀ (vs : List Nat) (ρ : Ev), (wipeE ρ vs).length = ρ.length
  | [], ρ => rfl
  | v :: vs, ρ => by rw [wipeE, List.length_set, wipe_len vs]
theorem loopC_map {α : Type} {t : D → Ev → Option Ev} {c : Ev → R Bool} {f : Ev → R D} {vs : List Nat} {g : α → D} {p : α → Bool} {e : α → D} {W : Ev} : ∀ (xs : List α) (acc : List D),
    (∀ x ∈ xs, ∃ ρ1, t (g x) W = some ρ1 ∧ ∃ ρ2, c ρ1 = .ok (p x) ρ2 ∧ (p x = true → ∃ ρ3, f ρ2 = .ok (e x) ρ3 ∧ wipeE ρ3 vs = W) ∧ (p x = false → wipeE ρ2 vs = W)) →
    loopC t c f vs (xs.map g) acc W = .ok (acc ++ (xs.filter p).map e) W
  | [], acc, _ => by simp [loopC]
  | x :: xs, acc, h => by
    obtain ⟨ρ1, h1, ρ2, h2, ht, hf⟩ := h x List.mem_cons_self
    have ih := fun acc => loopC_map xs acc fun y hy => h y (List.mem_cons_of_mem _ hy)
    rw [List.map_cons, loopC, h1]
    dsimp only
    cases hp : p x with
    | true =>
      rw [hp] at h2
      obtain ⟨ρ3, h3, h4⟩ := ht hp
      rw [h2]; dsimp only; rw [h3]; dsimp only; rw [h4, ih]
      simp [hp]
    | false =>
      rw [hp] at h2
      rw [h2]; dsimp only; rw [hf hp, ih]
      simp [hp]
theorem back_wipe : ∀ (vs : List Nat) (ρ : Ev), backE ρ (wipeE ρ vs) vs = ρ := by
  have key : ∀ (vs : List Nat) (ρ ρ' : Ev), ρ'.length = ρ.length → (∀ i, i ∉ vs → ρ'[i]? = ρ[i]?) → backE ρ ρ' vs = ρ := by
    intro vs
    induction vs with
    | nil => intro ρ ρ' hl h; exact List.ext_getElem? fun i => h i (by simp)
    | cons v vs ih =>
      intro ρ ρ' hl h
      have hb : ∀ (us : List Nat) (σ : Ev), (backE ρ σ us).length = σ.length := by
        intro us; induction us with
        | nil => intro σ; rfl
        | cons u us ih => intro σ; rw [backE, List.length_set, ih]
      have hg : ∀ (us : List Nat) (σ : Ev) (i : Nat), σ.length = ρ.length → (backE ρ σ us)[i]? = if i ∈ us then ρ[i]? else σ[i]? := by
        intro us; induction us with
        | nil => intro σ i _; simp [backE]
        | cons u us ih =>
          intro σ i hσ
          rw [backE, List.getElem?_set]
          by_cases hu : u = i
          · subst hu
            simp only [List.mem_cons, true_or, if_true, ite_true]
            rw [hb, hσ]
            by_cases hlt : u < ρ.length
            · rw [if_pos hlt, List.getElem?_eq_getElem hlt]
            · rw [if_neg hlt]; exact (List.getElem?_eq_none (by omega)).symm
          · rw [if_neg hu, ih σ i hσ]
            simp only [List.mem_cons, Ne.symm hu, false_or]
      apply List.ext_getElem?
      intro i
      have e2 : (backE ρ ρ' (v :: vs))[i]? = _ := hg (v :: vs) ρ' i hl
      rw [e2]
      by_cases hm : i ∈ v :: vs
      · rw [if_pos hm]
      · rw [if_neg hm]; exact h i hm
  intro vs ρ
  refine key vs ρ _ (wipe_len vs ρ) ?_
  intro i hi
  have : ∀ (us : List Nat) (ρ : Ev), i ∉ us → (wipeE ρ us)[i]? = ρ[i]? := by
    intro us
    induction us with
    | nil => intro ρ _; rfl
    | cons u us ih =>
      intro ρ h
      rw [wipeE, List.getElem?_set_ne (by intro e; subst e; exact h List.mem_cons_self)]
      exact ih ρ fun z => h (List.mem_cons_of_mem _ z)
  exact this vs ρ hi
theorem lc_map {α : Type} {i : Ev → R (List D)} {t : D → Ev → Option Ev} {c : Ev → R Bool} {f : Ev → R D} {vs : List Nat} {g : α → D} {p : α → Bool} {e : α → D} {xs : List α} {ρ ρ1 : Ev}
    (hi : i ρ = .ok (xs.map g) ρ1) (him : immAt ρ1 vs = true) (hl : xs.length ≤ sizeLine)
    (h : ∀ x ∈ xs, ∃ ρ2, t (g x) (wipeE ρ1 vs) = some ρ2 ∧ ∃ ρ3, c ρ2 = .ok (p x) ρ3 ∧ (p x = true → ∃ ρ4, f ρ3 = .ok (e x) ρ4 ∧ wipeE ρ4 vs = wipeE ρ1 vs) ∧ (p x = false → wipeE ρ3 vs = wipeE ρ1 vs)) :
    fLc i t c f vs ρ = .ok (.lst true ((xs.filter p).map e)) ρ1 := by
  unfold fLc
  rw [hi]
  dsimp only [R.bind]
  rw [if_pos ⟨him, by simpa using hl⟩, loopC_map xs [] h]
  dsimp only
  rw [back_wipe]; rfl
/-- without a test -/
theorem lc_all {α : Type} {i : Ev → R (List D)} {t : D → Ev → Option Ev} {f : Ev → R D} {vs : List Nat} {g : α → D} {e : α → D} {xs : List α} {ρ ρ1 : Ev}
    (hi : i ρ = .ok (xs.map g) ρ1) (him : immAt ρ1 vs = true) (hl : xs.length ≤ sizeLine)
    (h : ∀ x ∈ xs, ∃ ρ2, t (g x) (wipeE ρ1 vs) = some ρ2 ∧ ∃ ρ4, f ρ2 = .ok (e x) ρ4 ∧ wipeE ρ4 vs = wipeE ρ1 vs) :
    fLc i t fYes f vs ρ = .ok (.lst true (xs.map e)) ρ1 := by
  have := lc_map (p := fun _ => true) (c := fYes) (f := f) (e := e) hi him hl fun x hx => by
    obtain ⟨ρ2, h1, ρ4, h2, h3⟩ := h x hx
    exact ⟨ρ2, h1, ρ2, rfl, fun _ => ⟨ρ4, h2, h3⟩, fun z => by cases z⟩
  rw [List.filter_eq_self.mpr (fun _ _ => rfl)] at this
  exact this
@[simp] theorem wipe_nil {ρ : Ev} : wipeE ρ [] = ρ := (rfl)
@[simp] theorem wipe_cons {ρ : Ev} {v vs} : wipeE ρ (v :: vs) = (wipeE ρ vs).set v none := (rfl)
@[simp] theorem immAt_nil {ρ : Ev} : immAt ρ [] = true := (rfl)
def immO (o : Option (Option D)) : Bool := match o with
  | some (some d) => isImm d
  | _ => true
@[simp] theorem immO_n : immO (some none) = true := (rfl)
@[simp] theorem immO_s {d : D} : immO (some (some d)) = isImm d := (rfl)
@[simp] theorem immAt_cons {ρ : Ev} {v vs} : immAt ρ (v :: vs) = (immO ρ[v]? && immAt ρ vs) := by
  unfold immAt immO; rw [List.all_cons]; try rfl
end Hap
namespace Hap
open PySem PySem.Spec PyProof.Rows L2
local instance : TabC := noTab
theorem kit_NoneType_bool : kitB "NoneType" "bool" = some false := by decide +kernel
theorem kit_NoneType_int : kitB "NoneType" "int" = some false := by decide +kernel
theorem kit_NoneType_list : kitB "NoneType" "list" = some false := by decide +kernel
theorem kit_NoneType_str : kitB "NoneType" "str" = some false := by decide +kernel
theorem kit_NoneType_tuple : kitB "NoneType" "tuple" = some false := by decide +kernel
theorem kit_bool_bool : kitB "bool" "bool" = some true := by decide +kernel
theorem kit_bool_int : kitB "bool" "int" = some true := by decide +kernel
theorem kit_bool_list : kitB "bool" "list" = some false := by decide +kernel
theorem kit_bool_str : kitB "bool" "str" = some false := by decide +kernel
theorem kit_bool_tuple : kitB "bool" "tuple" = some false := by decide +kernel
theorem kit_int_bool : kitB "int" "bool" = some false := by decide +kernel
theorem kit_int_int : kitB "int" "int" = some true := by decide +kernel
theorem kit_int_list : kitB "int" "list" = some false := by decide +kernel
theorem kit_int_str : kitB "int" "str" = some false := by decide +kernel
theorem kit_int_tuple : kitB "int" "tuple" = some false := by decide +kernel
theorem kit_list_bool : kitB "list" "bool" = some false := by decide +kernel
theorem kit_list_int : kitB "list" "int" = some false := by decide +kernel
theorem kit_list_list : kitB "list" "list" = some true := by decide +kernel
theorem kit_list_str : kitB "list" "str" = some false := by decide +kernel
theorem kit_list_tuple : kitB "list" "tuple" = some false := by decide +kernel
theorem kit_str_bool : kitB "str" "bool" = some false := by decide +kernel
theorem kit_str_int : kitB "str" "int" = some false := by decide +kernel
theorem kit_str_list : kitB "str" "list" = some false := by decide +kernel
theorem kit_str_str : kitB "str" "str" = some true := by decide +kernel
theorem kit_str_tuple : kitB "str" "tuple" = some false := by decide +kernel
theorem kit_tuple_bool : kitB "tuple" "bool" = some false := by decide +kernel
theorem kit_tuple_int : kitB "tuple" "int" = some false := by decide +kernel
theorem kit_tuple_list : kitB "tuple" "list" = some false := by decide +kernel
theorem kit_tuple_str : kitB "tuple" "str" = some false := by decide +kernel
theorem kit_tuple_tuple : kitB "tuple" "tuple" = some true := by decide +kernel
@[simp] theorem isi_non_int : gIsi [.non, .gv (.ty "int")] = some (.bl false) := by show (kitB "NoneType" "int").map D.bl = _; rw [kit_NoneType_int]; rfl
@[simp] theorem isi_bl_int {b : Bool} : gIsi [(.bl b), .gv (.ty "int")] = some (.bl true) := by show (kitB "bool" "int").map D.bl = _; rw [kit_bool_int]; rfl
@[simp] theorem isi_int_int {i : Int} : gIsi [(.int i), .gv (.ty "int")] = some (.bl true) := by show (kitB "int" "int").map D.bl = _; rw [kit_int_int]; rfl
@[simp] theorem isi_str_int {x : Str} : gIsi [(.str x), .gv (.ty "int")] = some (.bl false) := by show (kitB "str" "int").map D.bl = _; rw [kit_str_int]; rfl
@[simp] theorem isi_lst_int {o : Bool} {xs : List D} : gIsi [(.lst o xs), .gv (.ty "int")] = some (.bl false) := by show (kitB "list" "int").map D.bl = _; rw [kit_list_int]; rfl
@[simp] theorem isi_tup_int {xs : List D} : gIsi [(.tup xs), .gv (.ty "int")] = some (.bl false) := by show (kitB "tuple" "int").map D.bl = _; rw [kit_tuple_int]; rfl
@[simp] theorem isi_rol_int {xs : List D} : gIsi [(.rol xs), .gv (.ty "int")] = some (.bl false) := by show (kitB "list" "int").map D.bl = _; rw [kit_list_int]; rfl
@[simp] theorem isi_non_bool : gIsi [.non, .gv (.ty "bool")] = some (.bl false) := by show (kitB "NoneType" "bool").map D.bl = _; rw [kit_NoneType_bool]; rfl
@[simp] theorem isi_bl_bool {b : Bool} : gIsi [(.bl b), .gv (.ty "bool")] = some (.bl true) := by show (kitB "bool" "bool").map D.bl = _; rw [kit_bool_bool]; rfl
@[simp] theorem isi_int_bool {i : Int} : gIsi [(.int i), .gv (.ty "bool")] = some (.bl false) := by show (kitB "int" "bool").map D.bl = _; rw [kit_int_bool]; rfl
@[simp] theorem isi_str_bool {x : Str} : gIsi [(.str x), .gv (.ty "bool")] = some (.bl false) := by show (kitB "str" "bool").map D.bl = _; rw [kit_str_bool]; rfl
@[simp] theorem isi_lst_bool {o : Bool} {xs : List D} : gIsi [(.lst o xs), .gv (.ty "bool")] = some (.bl false) := by show (kitB "list" "bool").map D.bl = _; rw [kit_list_bool]; rfl
@[simp] theorem isi_tup_bool {xs : List D} : gIsi [(.tup xs), .gv (.ty "bool")] = some (.bl false) := by show (kitB "tuple" "bool").map D.bl = _; rw [kit_tuple_bool]; rfl
@[simp] theorem isi_rol_bool {xs : List D} : gIsi [(.rol xs), .gv (.ty "bool")] = some (.bl false) := by show (kitB "list" "bool").map D.bl = _; rw [kit_list_bool]; rfl
@[simp] theorem isi_non_str : gIsi [.non, .gv (.ty "str")] = some (.bl false) := by show (kitB "NoneType" "str").map D.bl = _; rw [kit_NoneType_str]; rfl
@[simp] theorem isi_bl_str {b : Bool} : gIsi [(.bl b), .gv (.ty "str")] = some (.bl false) := by show (kitB "bool" "str").map D.bl = _; rw [kit_bool_str]; rfl
@[simp] theorem isi_int_str {i : Int} : gIsi [(.int i), .gv (.ty "str")] = some (.bl false) := by show (kitB "int" "str").map D.bl = _; rw [kit_int_str]; rfl
@[simp] theorem isi_str_str {x : Str} : gIsi [(.str x), .gv (.ty "str")] = some (.bl true) := by show (kitB "str" "str").map D.bl = _; rw [kit_str_str]; rfl
@[simp] theorem isi_lst_str {o : Bool} {xs : List D} : gIsi [(.lst o xs), .gv (.ty "str")] = some (.bl false) := by show (kitB "list" "str").map D.bl = _; rw [kit_list_str]; rfl
@[simp] theorem isi_tup_str {xs : List D} : gIsi [(.tup xs), .gv (.ty "str")] = some (.bl false) := by show (kitB "tuple" "str").map D.bl = _; rw [kit_tuple_str]; rfl
@[simp] theorem isi_rol_str {xs : List D} : gIsi [(.rol xs), .gv (.ty "str")] = some (.bl false) := by show (kitB "list" "str").map D.bl = _; rw [kit_list_str]; rfl
@[simp] theorem isi_non_list : gIsi [.non, .gv (.ty "list")] = some (.bl false) := by show (kitB "NoneType" "list").map D.bl = _; rw [kit_NoneType_list]; rfl
@[simp] theorem isi_bl_list {b : Bool} : gIsi [(.bl b), .gv (.ty "list")] = some (.bl false) := by show (kitB "bool" "list").map D.bl = _; rw [kit_bool_list]; rfl
@[simp] theorem isi_int_list {i : Int} : gIsi [(.int i), .gv (.ty "list")] = some (.bl false) := by show (kitB "int" "list").map D.bl = _; rw [kit_int_list]; rfl
@[simp] theorem isi_str_list {x : Str} : gIsi [(.str x), .gv (.ty "list")] = some (.bl false) := by show (kitB "str" "list").map D.bl = _; rw [kit_str_list]; rfl
@[simp] theorem isi_lst_list {o : Bool} {xs : List D} : gIsi [(.lst o xs), .gv (.ty "list")] = some (.bl true) := by show (kitB "list" "list").map D.bl = _; rw [kit_list_list]; rfl
@[simp] theorem isi_tup_list {xs : List D} : gIsi [(.tup xs), .gv (.ty "list")] = some (.bl false) := by show (kitB "tuple" "list").map D.bl = _; rw [kit_tuple_list]; rfl
@[simp] theorem isi_rol_list {xs : List D} : gIsi [(.rol xs), .gv (.ty "list")] = some (.bl true) := by show (kitB "list" "list").map D.bl = _; rw [kit_list_list]; rfl
@[simp] theorem isi_non_tuple : gIsi [.non, .gv (.ty "tuple")] = some (.bl false) := by show (kitB "NoneType" "tuple").map D.bl = _; rw [kit_NoneType_tuple]; rfl
@[simp] theorem isi_bl_tuple {b : Bool} : gIsi [(.bl b), .gv (.ty "tuple")] = some (.bl false) := by show (kitB "bool" "tuple").map D.bl = _; rw [kit_bool_tuple]; rfl
@[simp] theorem isi_int_tuple {i : Int} : gIsi [(.int i), .gv (.ty "tuple")] = some (.bl false) := by show (kitB "int" "tuple").map D.bl = _; rw [kit_int_tuple]; rfl
@[simp] theorem isi_str_tuple {x : Str} : gIsi [(.str x), .gv (.ty "tuple")] = some (.bl false) := by show (kitB "str" "tuple").map D.bl = _; rw [kit_str_tuple]; rfl
@[simp] theorem isi_lst_tuple {o : Bool} {xs : List D} : gIsi [(.lst o xs), .gv (.ty "tuple")] = some (.bl false) := by show (kitB "list" "tuple").map D.bl = _; rw [kit_list_tuple]; rfl
@[simp] theorem isi_tup_tuple {xs : List D} : gIsi [(.tup xs), .gv (.ty "tuple")] = some (.bl true) := by show (kitB "tuple" "tuple").map D.bl = _; rw [kit_tuple_tuple]; rfl
@[simp] theorem isi_rol_tuple {xs : List D} : gIsi [(.rol xs), .gv (.ty "tuple")] = some (.bl false) := by show (kitB "list" "tuple").map D.bl = _; rw [kit_list_tuple]; rfl
theorem loopL {α : Type} {step : D → Ev → RS} {f : α → D} (I : List α → Ev → Prop) (xs : List α) (ρ : Ev) (h : I xs ρ) (hs : ∀ x xs ρ, I (x :: xs) ρ → ∃ ρ', step (f x) ρ = .nx ρ' ∧ I xs ρ') : ∃ ρ', loopS step (xs.map f) ρ = .nx ρ' ∧ I [] ρ' := by
  rcases loopT (T := fun _ _ => False) I xs ρ h (fun x xs ρ hI => .inl (hs x xs ρ hI)) with h | ⟨_, _, _, h⟩
  · exact h
  · exact h.elim
end Hap
namespace Hap
open PySem PySem.Spec PyProof.Rows L2
local instance : TabC := noTab
def Sh (n : Nat) (d : D) : Prop := (toPy d).canLay0 = true ∧ (toPy d).depth ≤ n
def EqD {α : Type} [DecidableEq α] (f : α → D) : Prop := ∀ x y, PyData.eqv (toPy (f x)) (toPy (f y)) = decide (x = y)
section
variable {α : Type} [DecidableEq α] {f : α → D} {n : Nat} {o o' : Bool}
theorem Sh.shaped {d : D} (h : Sh n d) (hn : n ≤ 64) : SeqAt.shaped (toPy d) = true := by
  unfold SeqAt.shaped; rw [h.1, decide_eq_true (Nat.le_trans h.2 hn)]; rfl
theorem Sh.mono {m : Nat} {d : D} (h : Sh n d) (l : n ≤ m) : Sh m d := ⟨h.1, Nat.le_trans h.2 l⟩
theorem sh_int {i} : Sh n (.int i) := ⟨by simp [toPy, PyData.canLay0], by simp [toPy, PyData.depth]⟩
theorem sh_bl {i} : Sh n (.bl i) := ⟨by simp [toPy, PyData.canLay0], by simp [toPy, PyData.depth]⟩
theorem sh_non : Sh n .non := ⟨by simp [toPy, PyData.canLay0], by simp [toPy, PyData.depth]⟩
theorem sh_str {x : Str} (h : ∀ c ∈ x.cps.toList, c < 0x110000) : Sh n (.str x) := ⟨by
  simp only [toPy, PyData.canLay0, PyData.strOk, Array.all_eq_true']
  intro c hc; exact decide_eq_true (h c (by simpa using hc)), by simp [toPy, PyData.depth]⟩
theorem shs {ds : List D} (h : ∀ d ∈ ds, Sh n d) : PyData.canLayAll0 (toPys ds) = true ∧ PyData.depthAll (toPys ds) ≤ n := by
  induction ds with
  | nil => simp [toPys, PyData.canLayAll0, PyData.depthAll]
  | cons d ds ih =>
    obtain ⟨h1, h2⟩ := ih fun d hd => h d (List.mem_cons_of_mem _ hd)
    obtain ⟨h3, h4⟩ := h d List.mem_cons_self
    simp only [toPys, PyData.canLayAll0, PyData.depthAll, h3, h1, Bool.and_self, true_and]
    omega
theorem sh_lst {ds : List D} (h : ∀ d ∈ ds, Sh n d) : Sh (n + 1) (.lst o ds) := by
  obtain ⟨h1, h2⟩ := shs h
  exact ⟨by simp only [toPy, PyData.canLay0, h1], by simp only [toPy, PyData.depth]; omega⟩
theorem sh_tup {ds : List D} (h : ∀ d ∈ ds, Sh n d) : Sh (n + 1) (.tup ds) := by
  obtain ⟨h1, h2⟩ := shs h
  exact ⟨by simp only [toPy, PyData.canLay0, h1], by simp only [toPy, PyData.depth]; omega⟩
theorem eqd_all (E : EqD f) : ∀ xs ys : List α, PyData.eqvAll (toPys (xs.map f)) (toPys (ys.map f)) = decide (xs = ys)
  | [], [] => by simp [toPys, PyData.eqvAll]
  | [], _ :: _ => by simp [toPys, PyData.eqvAll]
  | _ :: _, [] => by simp [toPys, PyData.eqvAll]
  | x :: xs, y :: ys => by
    simp only [List.map_cons, toPys, PyData.eqvAll, eqd_all E xs ys, E x y]
    by_cases h : x = y <;> by_cases h' : xs = ys <;> simp [h, h']
theorem eqd_nat : EqD fun x : Nat => D.int (x : Int) := fun x y => by
  simp only [toPy, PyData.eqv]
  by_cases h : x = y
  · simp [h]
  · have : ¬ (x : Int) = (y : Int) := by omega
    simp [h, this]
theorem eq_map {xs ys : List α} (E : EqD f) (hx : ∀ x ∈ xs, Sh 60 (f x)) (hy : ∀ x ∈ ys, Sh 60 (f x)) : gEq (.lst o (xs.map f)) (.lst o' (ys.map f)) = some (.bl (decide (xs = ys))) := by
  have h1 : Sh 61 (.lst o (xs.map f)) := sh_lst fun d hd => by obtain ⟨x, hx', rfl⟩ := List.mem_map.mp hd; exact hx x hx'
  have h2 : Sh 61 (.lst o' (ys.map f)) := sh_lst fun d hd => by obtain ⟨x, hx', rfl⟩ := List.mem_map.mp hd; exact hy x hx'
  unfold gEq
  dsimp only
  rw [if_pos ⟨h1.shaped (by omega), h2.shaped (by omega)⟩]
  simp only [toPy, PyData.eqv, eqd_all E]
/-- two things of one code -/
theorem eq_cod {x y : α} (E : EqD f) (hx : Sh 64 (f x)) (hy : Sh 64 (f y)) (hm : gEq (f x) (f y) = if SeqAt.shaped (toPy (f x)) = true ∧ SeqAt.shaped (toPy (f y)) = true then some (.bl (PyData.eqv (toPy (f x)) (toPy (f y)))) else none) : gEq (f x) (f y) = some (.bl (decide (x = y))) := by
  rw [hm, if_pos ⟨hx.shaped (by omega), hy.shaped (by omega)⟩, E x y]
theorem any_map {xs : List α} {z : α} (E : EqD f) : ((toPys (xs.map f)).any fun u => PyData.eqv u (toPy (f z))) = decide (z ∈ xs) := by
  induction xs with
  | nil => simp [toPys]
  | cons x xs ih =>
    rw [List.map_cons, toPys, List.any_cons, ih, E x z]
    by_cases h : x = z
    · simp [h]
    · have : ¬ z = x := fun e => h e.symm
      simp [h, this]
theorem in_map {xs : List α} {z : α} (E : EqD f) (hz : Sh 60 (f z)) (hx : ∀ x ∈ xs, Sh 60 (f x)) : gIn (f z) (.lst o (xs.map f)) = some (.bl (decide (z ∈ xs))) := by
  have h1 : Sh 61 (.lst o (xs.map f)) := sh_lst fun d hd => by obtain ⟨x, hx', rfl⟩ := List.mem_map.mp hd; exact hx x hx'
  have h1' := h1.shaped (by omega)
  simp only [toPy] at h1'
  unfold gIn gInB
  dsimp only
  rw [if_pos ⟨hz.shaped (by omega), h1'⟩, any_map E]; rfl
theorem idx_map {xs : List α} {z : α} {i : Nat} (E : EqD f) (hx : ∀ x ∈ xs, Sh 60 (f x)) (hi : xs[i]? = some z) (nd : xs.Nodup) : gIndex (.lst o (xs.map f)) [f z] = some (.int (i : Int)) := by
  have hz : z ∈ xs := List.mem_of_getElem? hi
  have h1 : Sh 61 (.lst o (xs.map f)) := sh_lst fun d hd => by obtain ⟨x, hx', rfl⟩ := List.mem_map.mp hd; exact hx x hx'
  have h1' := h1.shaped (by omega)
  simp only [toPy] at h1'
  have key : ∀ (xs : List α) (i : Nat), xs[i]? = some z → xs.Nodup → idxP (toPy (f z)) (toPys (xs.map f)) = some i := by
    intro xs
    induction xs with
    | nil => intro i h; simp at h
    | cons x xs ih =>
      intro i h nd
      rw [List.map_cons, toPys, idxP, E x z]
      cases i with
      | zero => simp at h; subst h; simp
      | succ i =>
        have h' : xs[i]? = some z := by simpa using h
        have hne : ¬ x = z := fun e => by subst e; exact (List.nodup_cons.mp nd).1 (List.mem_of_getElem? h')
        rw [if_neg (by simpa using hne), ih i h' (List.nodup_cons.mp nd).2]; rfl
  unfold gIndex
  rw [lstOf_l]
  show (if _ then _ else _) = _
  rw [if_pos ⟨(hx z hz).shaped (by omega), h1'⟩, key xs i hi nd]; rfl
end
theorem boolsD_map {α : Type} (p : α → Bool) : ∀ xs : List α, boolsD (xs.map fun x => .bl (p x)) = some (xs.map p)
  | [] => rfl
  | x :: xs => by rw [List.map_cons, boolsD, boolsD_map p xs]; rfl
theorem all_map_bl {α : Type} {o : Bool} (p : α → Bool) (xs : List α) : gAll [.lst o (xs.map fun x => .bl (p x))] = some (.bl (xs.all p)) := by
  rw [all_l, boolsD_map]; simp
end Hap
namespace Hap
open PySem PySem.Spec PyProof.Rows L2
variable [TabC]
mutual
theorem rl_frzV {z : Bool} {K : PySem.W.Frag} {P P' : AS} {H : Hp} {F F' : AS} {d : D} {v : V} (h : Rl false K P H d v F) (hP : ∀ b, H b ≠ none → P' b) : Rl z K P' H (frz d) v F' := by
  cases h with
  | non => exact .non
  | bl => exact .bl
  | int => exact .int
  | str => exact .str
  | lstO e f s r => exact .lstI e (hP _ (by rw [e]; simp)) (isImms_frzs _) (rls_frzV r hP)
  | lstI e p i r => exact .lstI e (hP _ (by rw [e]; simp)) (isImms_frzs _) (rls_frzV r hP)
  | tup e p r => exact .tup e (hP _ (by rw [e]; simp)) (rls_frzV r hP)
  | dctO e k l f s r => exact .dctI (.inl e) k l (hP _ (by rw [e]; simp)) (isImms_frzs _) (rls_frzV r hP)
  | dctI e k l p i r => exact .dctI e k l (hP _ (by rcases e with e | ⟨o, e⟩ <;> rw [e] <;> simp)) (isImms_frzs _) (rls_frzV r hP)
  | dcTO e k l f s r => exact .dcTI (.inl e) k l (hP _ (by rw [e]; simp)) (isImms_frzs _) (rls_frzV r hP)
  | dcTI e k l p i r => exact .dcTI e k l (hP _ (by rcases e with e | ⟨o, e⟩ <;> rw [e] <;> simp)) (isImms_frzs _) (rls_frzV r hP)
  | rol e i r =>
    refine .rol ?_ (isImms_frzs _) (rls_frzV r hP)
    rcases e with ⟨_, e | ⟨o, e⟩⟩ | e
    · exact .inl ⟨hP _ (by rw [e]; simp), .inl e⟩
    · exact .inl ⟨hP _ (by rw [e]; simp), .inr ⟨o, e⟩⟩
    · exact .inr e
  | gv => exact .gv
  | xn e p => exact .xn e (hP _ (by rw [e]; simp))
  | dcNO e k d f s r => exact .dcNI e (k.step fun b vs p e => ⟨hP b (by rw [e]; simp), e⟩) d (hP _ (by rw [e]; simp)) (isImms_frzs _) (rls_frzV r hP)
  | dcNI e k d p i r => exact .dcNI e (k.step fun b vs p e => ⟨hP b (by rw [e]; simp), e⟩) d (hP _ (by rw [e]; simp)) (isImms_frzs _) (rls_frzV r hP)
  | clo => exact .any
  | any => exact .any
  | objO e k l f s r => exact .objI e k l (hP _ (by rw [e]; simp)) (isImms_frzs _) (rls_frzV r hP)
  | objI e k l p i r => exact .objI e k l (hP _ (by rw [e]; simp)) (isImms_frzs _) (rls_frzV r hP)
theorem rls_frzV {z : Bool} {K : PySem.W.Frag} {P P' : AS} {H : Hp} {F F' : AS} {ds : List D} {vs : List V} (h : Rls false K P H ds vs F) (hP : ∀ b, H b ≠ none → P' b) : Rls z K P' H (frzs ds) vs F' := by
  cases h with
  | nil => exact .nil
  | cons r rs s1 s2 dj => exact .cons (F1 := fun _ => False) (F2 := fun _ => False) (rl_frzV r hP) (rls_frzV rs hP) (fun b q => q.elim) (fun b q => q.elim) fun _ q => q.elim
end
mutual
/-- every node one's own -/
def ownAll : D → Bool
  | .lst o xs => o && ownAlls xs
  | .dct o _ xs => o && ownAlls xs
  | .dcT o _ xs => o && ownAlls xs
  | .tup _ => false
  | .rol _ => false
  | .gv _ => false
  | .xn _ _ _ => false
  | .dcN _ _ _ => false
  | .clo _ _ => false
  | .obj _ _ _ _ => false
  | _ => true
def ownAlls : List D → Bool
  | [] => true
  | d :: ds => ownAll d && ownAlls ds
end
def vRes (r : RF) : Option D := match r with
  | .rt d _ => if flatD d = true then some d else none
  | _ => none
def oRes (r : RF) (ρ : Ev) : R D := match r with
  | .rt d _ => if ownAll d = true then .ok d ρ else .stk
  | _ => .stk
def vCall (n : Nat) (sem : Fn) (fa : Ev → Option (List D)) : Ev → Option D := fun ρ => (fa ρ).bind fun ds => if ds.length = n then vRes (sem (frzs ds)) else none
def fCallO (n : Nat) (sem : Fn) (fa : Ev → Option (List D)) : Ev → R D := fun ρ => match fa ρ with
  | some ds => if ds.length = n then oRes (sem (frzs ds)) ρ else .stk
  | none => .stk
section
variable {X : Cx} {RX RX' : RXR} {W : WX} {k j n : Nat} {sem : Fn} {x : Str} {p pos : Pos} {e : Expr} {es : List Expr} {fa : Ev → Option (List D)}
/-- what such a call asks of the def's promise -/
theorem look_sp {K : PySem.W.Frag} {P1 : AS} {H1 : Hp} {ρ : Ev} {σ : L2.St} {FE : FP} {ds : List D} {vs : List V} {Q : VK} {E : XK} (S1 : Stt K P1 H1 ρ σ FE) (r1 : Rls false K P1 H1 ds vs E_) (hl : ds.length = n)
    (h : match sem (frzs ds) with
      | .rt d outs => ∀ v P' H' F, (∀ b o, H1 b = some o → NT o → H' b = some o) → (∀ b, H1 b ≠ none → H' b ≠ none) → NdefX.TabsN TabC.T H' → (∀ b, F b → H1 b = none ∧ H' b ≠ none ∧ ¬ IsTT (H' b)) → Rl true K P' H' d v F → Q v H'
      | _ => False) : spD K RX' (List.replicate n false) sem vs H1 Q E := by
  have lv := rls_len r1
  refine ⟨by rw [List.length_replicate]; omega, fun b => H1 b ≠ none, frzs ds, fun _ => E_, ⟨fun b z => z, fun i b z => z.elim, fun i j b z => z.elim, fun i d e2 => ?_, by rw [List.length_map, List.length_map, frzs_len]; exact lv, TAB.all S1.tab.1⟩, fun i _ b z => z.elim, ?_⟩
  · rw [List.getElem?_map] at e2
    cases e3 : (frzs ds)[i]? with
    | none => rw [e3] at e2; cases e2
    | some d' =>
      rw [e3] at e2; cases e2
      obtain ⟨v, e4, r⟩ := rls_get (rls_frzV (z := true) (P' := fun b => H1 b ≠ none) (F' := E_) r1 fun b z => z) e3
      exact ⟨v, by rw [List.getElem?_map, e4]; rfl, r⟩
  · cases e2 : sem (frzs ds) with
    | stk => simp only [e2] at h
    | exc xx outs => simp only [e2] at h
    | rt d outs =>
      simp only [e2] at h
      intro v P2 H2 FA' F2 S2 T2 t2
      exact h v P2 H2 F2 (fun b o e => t2.frame b o e fun ⟨_, z⟩ => z) t2.alive S2.tab.1 (fun b z => ⟨(t2.sub b (.inr z)).elim (fun ⟨_, z⟩ => z.elim) id, (T2.own b z).1, fun w => (T2.own b z).2.1 (S2.tab.2 b w)⟩) T2.rl
theorem flat_any {K K' : PySem.W.Frag} {P P' : AS} {H H' : Hp} {z z' : Bool} {d : D} {v : V} {F F' : AS} (r : Rl z K P H d v F) (h : flatD d = true) : Rl z' K' P' H' d v F' := by
  cases r <;> first | exact .non | exact .bl | exact .int | exact .str | cases h
theorem dv_callC (C : Cal X.prog X.w X.K X.mg X.base RX' x j (List.replicate n false) sem) (hr : Room k X.A) (hj : j ≤ k) (hg : Gl X x) (ha : DAV X (e :: es) fa) (hdb : (x == ("__debug__" : Str)) = false := by decide)
    (he : starEach (e :: es) X.env = (false, eval e X.env) :: starEach es X.env := by rfl) (hpl : (backTo pos (starEach es X.env)).any (·.1) = false := by rfl) : DV X (.Call (.Name x p) (e :: es) [] pos) (vCall n sem fa) := by
  obtain ⟨f, fd, ps, F, hm, hk, hb⟩ := C.ex
  refine pe_imp (pe_callS F (hr.mono hj) hg hm hk hb (fun σ => L2N.passAt (takesN0 (X := X)) σ) ha hdb he hpl) fun σ H Q q => ?_
  obtain ⟨P, ρ, FE, S, q⟩ := q
  refine ⟨P, ρ, FE, S, ?_⟩
  unfold vCall at q
  cases e1 : fa ρ with
  | none => simp only [e1, Option.bind] at q
  | some ds =>
    simp only [e1, Option.bind] at q
    intro vs P1 H1 n1 r1
    by_cases hl : ds.length = n
    · simp only [if_pos hl] at q
      refine look_sp (n1.stt S) r1 hl ?_
      cases e2 : sem (frzs ds) with
      | stk => simp only [e2, vRes] at q
      | exc xx outs => simp only [e2, vRes] at q
      | rt d outs =>
        simp only [e2, vRes] at q
        by_cases hf : flatD d = true
        · simp only [if_pos hf] at q
          intro v P2 H2 F2 sm al tb nw r
          exact q v _ H2 (n1.trans_ (New.pinN sm al tb (n1.stt S).pin fun b z => z.elim)) (flat_any r hf)
        · simp only [if_neg hf] at q
    · simp only [if_neg hl] at q
end
section
variable {ρ : Ev} {d : D} {o : Ev}
@[simp] theorem vRes_rt : vRes (.rt d o) = if flatD d = true then some d else none := (rfl)
@[simp] theorem oRes_rt : oRes (.rt d o) ρ = if ownAll d = true then .ok d ρ else .stk := (rfl)
@[simp] theorem ap_vcall {n sem fa} : vCall n sem fa ρ = (fa ρ).bind fun ds => if ds.length = n then vRes (sem (frzs ds)) else none := (rfl)
def fromV (x : Option (List D)) (k : List D → R D) : R D := match x with
  | some ds => k ds
  | none => .stk
@[simp] theorem fromV_s {ds : List D} {k} : fromV (some ds) k = k ds := (rfl)
@[simp] theorem ap_callO {n sem fa} : fCallO n sem fa ρ = fromV (fa ρ) fun ds => if ds.length = n then oRes (sem (frzs ds)) ρ else .stk := by unfold fCallO fromV; rfl
@[simp] theorem flat_int {i} : flatD (.int i) = true := (rfl)
@[simp] theorem flat_bl {i} : flatD (.bl i) = true := (rfl)
@[simp] theorem flat_str {i} : flatD (.str i) = true := (rfl)
@[simp] theorem flat_non : flatD .non = true := (rfl)
@[simp] theorem own_int {i} : ownAll (.int i) = true := (rfl)
@[simp] theorem own_bl {i} : ownAll (.bl i) = true := (rfl)
@[simp] theorem own_str {i} : ownAll (.str i) = true := (rfl)
@[simp] theorem own_non : ownAll .non = true := (rfl)
@[simp] theorem own_lst {xs} : ownAll (.lst true xs) = ownAlls xs := (by simp [ownAll])
end
def hd1 (outs : Ev) : Option D := match outs[1]? with
  | some o => o
  | none => none
def fCallIO1 (j : Nat) (sem : Fn) (f1 : Ev → R D) : Ev → R D := fun ρ => (f1 ρ).bind fun d ρ1 => match ρ1[j]? with
  | some (some d0) => callR (sem [frz d, d0]) ρ1 fun outs => ρ1.set j (hd1 outs)
  | _ => .stk
def fOpNV (g : List D → Option D) (fa : Ev → Option (List D)) : Ev → R D := fun ρ => R.of ((fa ρ).bind g) ρ
section
variable {X : Cx} {RX : RXR} {W : WX} {x : Str} {p pos : Pos} {e : Expr} {es : List Expr} {f : Ev → Option (List D)}
theorem de_callBV {r : List V → Hp → VK → Prop} {g : List D → Option D} (h : PE X (.Call (.Name x p) (e :: es) [] pos) (tCB r (tAV X.K f))) (hv : VOpN X.K r g) : DE X RX W (.Call (.Name x p) (e :: es) [] pos) (fOpNV g f) := by
  refine pe_imp h fun σ H Q q => ?_
  obtain ⟨P, ρ, FE, S, q⟩ := q
  refine ⟨P, ρ, FE, S, ?_⟩
  unfold fOpNV at q
  cases e1 : f ρ with
  | none => simp only [e1, Option.bind, R.of] at q
  | some ds =>
    simp only [e1, Option.bind] at q
    intro vs P1 H1 n1 r1
    cases e2 : g ds with
    | none => simp only [e2, R.of] at q
    | some d =>
      simp only [e2, R.of] at q
      have S1 := n1.stt S
      exact hv P1 H1 ds vs d Q S1.pin r1 e2 fun u P2 H2 F2 n r => q u P2 H2 FE F2 (n.stt S1) (n.tmp S1 r) ((n1.tr (U0 := U FE)).less' |>.trans n.tr)
end
section
variable {ρ : Ev}
@[simp] theorem ap_opNV {g fa} : fOpNV g fa ρ = R.of ((fa ρ).bind g) ρ := (rfl)
@[simp] theorem hd1_c {a b : Option D} {os : Ev} : hd1 (a :: b :: os) = b := (rfl)
@[simp] theorem ap_callIO1 {j sem f1} : fCallIO1 j sem f1 ρ = (f1 ρ).bind fun d ρ1 => isS ρ1[j]? fun d0 => callR (sem [frz d, d0]) ρ1 fun outs => ρ1.set j (hd1 outs) := by unfold fCallIO1 isS; rfl
end
def fClear (i : Nat) : Ev → RS := fun ρ => match ρ[i]? with
  | some (some (.lst true _)) => .nx (ρ.set i (some (.lst true [])))
  | _ => .stk
def fExtend (i : Nat) (f : Ev → R (List D)) : Ev → RS := fun ρ => match ρ[i]? with
  | some (some (.lst _ _)) => RS.of (f ρ) fun ds ρ1 => (match ds with
    | [.lst o zs] => (match ρ1[i]? with
      | some (some (.lst true xs)) => if xs.length + zs.length ≤ sizeLine then .nx (ρ1.set i (some (.lst true (xs ++ zs)))) else .stk
      | _ => .stk)
    | _ => .stk)
  | _ => .stk
theorem rls_app2 {z : Bool} {K : PySem.W.Frag} {P : AS} {H : Hp} {es : List D} {ws : List V} {F2 : AS} : ∀ {ds : List D} {vs : List V} {F1 F : AS}, Rls z K P H ds vs F1 → Rls z K P H es ws F2 → (∀ b, F1 b → F b) → (∀ b, F2 b → F b) → (∀ b, F1 b → F2 b → False) → Rls z K P H (ds ++ es) (vs ++ ws) F
  | _, _, F1, F, .nil, r, _, s2, _ => rls_mono r (fun _ q => q) (fun _ _ e _ _ => e) s2
  | _, _, F1, F, .cons (F1 := G1) (F2 := G2) r' rs t1 t2 dj', r, s1, s2, dj =>
    .cons (F1 := G1) (F2 := fun b => G2 b ∨ F2 b) r' (rls_app2 rs r (fun _ q => .inl q) (fun _ q => .inr q) fun b q w => dj b (t2 b q) w) (fun b q => s1 b (t1 b q)) (fun b q => q.elim (fun q => s1 b (t2 b q)) (s2 b)) fun b q w => w.elim (dj' b q) (dj b (t1 b q))
section
variable {X : Cx} {RX : RXR} {W : WX} {kp : List Nat}
theorem ds_extend {s : Stmt} {i : Nat} {f : Ev → R (List D)} (h : PS X s (tDrop (tBM X.K "list" rExtend (tVar i) (tA X.K RX W f)))) : DS X RX W kp s (fExtend i f) := by
  refine ps_imp h fun D σ H q => ?_
  obtain ⟨P, ρ, FE, S, q⟩ := q
  unfold fExtend at q
  split at q
  · rename_i o xs e0
    obtain ⟨v, ev, r⟩ := S.rel i _ e0
    obtain ⟨p, vs, rfl, e, rs⟩ := lst_read r
    refine ⟨.ref p, ev, .inl ⟨rfl, vs, .inl (.inl e)⟩, P, ρ, FE, S, ?_⟩
    cases e1 : f ρ with
    | exc x ρ1 => simp only [e1, RS.of] at q; exact fun cls dx P' H' FE' S' t r => q cls dx σ P' H' FE' S' t Kp.refl r
    | stk => simp only [e1, RS.of] at q; exact q.elim
    | ok ds ρ1 =>
      simp only [e1, RS.of] at q
      intro ws P1 H1 FE1 F1 S1 T1 t1
      split at q
      · rename_i o2 zs
        split at q
        · rename_i ys e2
          split at q
          · rename_i hl
            obtain ⟨p', vs', F', ev', h1, h2, h3, h4⟩ := slot_lst S1 e2
            rw [ev] at ev'; cases ev'
            have nP := (S1.fin i p h2).2
            have nF1 : ¬ F1 p := fun z => (T1.own p z).2.2 ⟨i, h2⟩
            have nF' : ¬ F' p := fun z => (h3 p z).2 rfl
            obtain ⟨w, q0, us, rfl, hw, ru⟩ : ∃ (w : V) (q0 : Addr) (us : List V), ws = [.ref q0] ∧ H1 q0 = some (.lst us) ∧ Rls true X.K P1 H1 zs us F1 := by
              have rl := T1.rl
              cases rl with
              | cons r rs s1 s2 dj =>
                cases rs
                cases r with
                | lstO e f s r => exact ⟨.non, _, _, rfl, e, rls_mono r (fun _ q => q) (fun _ _ e _ _ => e) fun b z => s1 b (s b z).1⟩
                | lstI e p i r => exact ⟨.non, _, _, rfl, e, rls_mono r (fun _ q => q) (fun _ _ e _ _ => e) fun b z => z.elim⟩
            obtain ⟨S2, t2⟩ := slot_write (o := .lst (vs' ++ us)) (d' := .lst true (ys ++ zs)) S1 h1 .lst ev h2 T1.own (.lstO (F' := fun b => F' b ∨ F1 b) upd_same (fun _ => .inl h2) (fun b z => z.elim (fun z => ⟨.inl (h3 b z).1, (h3 b z).2⟩) fun z => ⟨.inr z, fun w => nF1 (by rw [← w]; exact z)⟩)
              (rls_app2 (rls_upd h4 nP nF') (rls_upd ru nP nF1) (fun _ z => .inl z) (fun _ z => .inr z) fun b z w => (T1.own b w).2.2 ⟨i, (h3 b z).1⟩))
            exact ⟨p, q0, vs', us, rfl, rfl, h1, hw, by rw [← rls_len h4, ← rls_len ru]; exact hl, q σ P1 _ _ S2 (t1.trans t2) Kp.refl⟩
          · exact q.elim
        · exact q.elim
      · exact q.elim
  · exact q.elim
end
def clrS (o : Option (Option D)) (i : Nat) (ρ : Ev) : RS := match o with
  | some (some (.lst true _)) => .nx (ρ.set i (some (.lst true [])))
  | _ => .stk
def extS (o : Option (Option D)) (i : Nat) (ds : List D) (ρ : Ev) : RS := match ds with
  | [.lst _ zs] => (match o with
      | some (some (.lst true xs)) => if xs.length + zs.length ≤ sizeLine then .nx (ρ.set i (some (.lst true (xs ++ zs)))) else .stk
      | _ => .stk)
  | _ => .stk
section
variable {ρ : Ev} {xs zs : List D} {i : Nat} {o : Bool}
@[simp] theorem clrS_s : clrS (some (some (.lst true xs))) i ρ = .nx (ρ.set i (some (.lst true []))) := (rfl)
@[simp] theorem ap_clear : fClear i ρ = clrS ρ[i]? i ρ := by unfold fClear clrS; rfl
@[simp] theorem extS_s : extS (some (some (.lst true xs))) i [.lst o zs] ρ = if xs.length + zs.length ≤ sizeLine then .nx (ρ.set i (some (.lst true (xs ++ zs)))) else .stk := (rfl)
@[simp] theorem ap_extend {f} : fExtend i f ρ = isLs ρ[i]? (RS.of (f ρ) fun ds ρ1 => extS ρ1[i]? i ds ρ1) := by unfold fExtend isLs extS; rfl
end
end Hap
namespace Hap
open PySem PySem.Spec PyProof.Rows L2
variable [TabC]
theorem nodup_sub_len {α : Type} [DecidableEq α] : ∀ {xs ys : List α}, xs.Nodup → (∀ k ∈ xs, k ∈ ys) → xs.length ≤ ys.length
  | [], _, _, _ => by simp
  | x :: xs, ys, nd, h => by
    have nd' := List.nodup_cons.mp nd
    have hx := h x List.mem_cons_self
    have := nodup_sub_len (ys := ys.erase x) nd'.2 fun k hk => (List.mem_erase_of_ne (fun e => nd'.1 (by rw [← e]; exact hk))).mpr (h k (List.mem_cons_of_mem _ hk))
    rw [List.length_erase_of_mem hx] at this
    have := List.length_pos_of_mem hx
    rw [List.length_cons]; omega
end Hap
namespace Hap
open PySem PySem.Spec PyProof.Rows L2
variable [TabC]
def fCallF (n : Nat) (sem : Fn) (fa : Ev → R (List D)) : Ev → R D := fun ρ => (fa ρ).bind fun ds ρ1 => match ds with
  | d0 :: ds' => if ds'.length + 1 = n then callR (sem (d0 :: frzs ds')) ρ1 fun _ => ρ1 else .stk
  | [] => .stk
section
variable {X : Cx} {RX : RXR} {W : WX} {k n : Nat} {f : Addr} {fd : FuncData} {ps : List Str} {sem : Fn} {x : Str} {p pos : Pos} {e : Expr} {es : List Expr} {fa : Ev → R (List D)}
theorem de_callF {m : Nat} (F : FnOk X.prog X.w X.K X.mg X.base (L2N.CX X.prog X.w) k f fd ps (spD X.K RX (true :: List.replicate m false) sem)) (hr : Room k X.A) (hg : Gl X x) (hm : X.mg x = some (.ref f)) (hk : PySem.W.keepIn X.K (.ref f) = true) (hb : Binds X.K fd ps []) (tk : L2N.Takes X W)
    (ha : DA X RX W (e :: es) fa) (hdb : (x == ("__debug__" : Str)) = false := by decide)
    (he : starEach (e :: es) X.env = (false, eval e X.env) :: starEach es X.env := by rfl) (hpl : (backTo pos (starEach es X.env)).any (·.1) = false := by rfl) : DE X RX W (.Call (.Name x p) (e :: es) [] pos) (fCallF (m + 1) sem fa) := by
  refine pe_imp (pe_callS F hr hg hm hk hb (fun σ => L2N.passAt tk σ) ha hdb he hpl) fun σ H Q q => ?_
  obtain ⟨P, ρ, FE, S, q⟩ := q
  refine ⟨P, ρ, FE, S, ?_⟩
  unfold fCallF at q
  cases e1 : fa ρ with
  | exc x ρ1 => simp only [e1, R.bind] at q; exact q
  | stk => simp only [e1, R.bind] at q
  | ok ds ρ1 =>
    simp only [e1, R.bind] at q
    intro vs P1 H1 FE1 F1 S1 T1 t1
    cases ds with
    | nil => simp only at q
    | cons d0 ds =>
      simp only at q
      by_cases hl : ds.length + 1 = m + 1
      · simp only [if_pos hl] at q
        obtain ⟨Trl, Town⟩ := T1
        cases Trl with
        | cons r rs s1 s2 dj =>
          rename_i v0 vs Fa Fb
          have lv := rls_len rs
          have Sc := S1.give (F := Fb) fun b z => ⟨(Town b (s2 b z)).1, (Town b (s2 b z)).2.2⟩
          have nE : ∀ b, U (fun i b => i = 0 ∧ Fa b) b → Fa b := fun b ⟨_, z⟩ => z.2
          have Stc : Stt X.K (fun b => P1 b ∨ Fb b) H1 ((d0 :: frzs ds).map some) ((v0 :: vs).map some) (fun i b => i = 0 ∧ Fa b) := by
            refine ⟨Sc.pin, fun i b z => ⟨(Town b (s1 b z.2)).1, fun w => w.elim (Town b (s1 b z.2)).2.1 fun w => dj b z.2 w⟩, fun i i' b z w => z.1.trans w.1.symm, fun i d e2 => ?_, ?_, Sc.tab⟩
            · cases i with
              | zero =>
                simp only [List.map_cons, List.getElem?_cons_zero] at e2 ⊢
                cases e2
                exact ⟨v0, rfl, rl_mono r (fun _ q => .inl q) (fun _ _ e _ _ => e) fun b z => by first | exact ⟨rfl, z⟩ | exact ⟨trivial, z⟩⟩
              | succ i =>
                simp only [List.map_cons, List.getElem?_cons_succ] at e2 ⊢
                rw [List.getElem?_map] at e2
                cases e3 : (frzs ds)[i]? with
                | none => rw [e3] at e2; cases e2
                | some d' =>
                  rw [e3] at e2; cases e2
                  obtain ⟨v, e4, r⟩ := rls_get (rls_frz (z := true) (F' := E_) rs (fun b z => Or.inl z) fun b z => Or.inr z) e3
                  exact ⟨v, by rw [List.getElem?_map, e4]; rfl, rl_mono r (fun _ q => q) (fun _ _ e _ _ => e) fun b z => z.elim⟩
            · simp only [List.length_map, List.length_cons, frzs_len]; omega
          have t1' : Tr P H (U FE) (fun b => P1 b ∨ Fb b) H1 (fun b => Fa b ∨ U FE1 b) := by
            refine (Tr.give (U1 := fun b => Fa b ∨ U FE1 b) (F := Fb) (t1.less fun b z => ?_))
            rcases z with (z | z) | z
            · exact .inr (s1 b z)
            · exact .inl z
            · exact .inr (s2 b z)
          have after : ∀ {P2 : AS} {H2 : Hp} {FA' : FP} {F2 : AS}, (∀ b, P2 b → H2 b ≠ none) → TAB P2 H2 → Tr (fun b => P1 b ∨ Fb b) H1 (U fun i b => i = 0 ∧ Fa b) P2 H2 (fun b => U FA' b ∨ F2 b) →
              Stt X.K P2 H2 ρ1 σ FE1 ∧ Tr P H (U FE) P2 H2 (fun b => U FE1 b ∨ F2 b) ∧ ∀ b, F2 b → ¬ U FE1 b := by
            intro P2 H2 FA' F2 pin2 tab2 t2
            refine ⟨⟨pin2, fun i b z => ?_, S1.dj, fun i d e2 => ?_, S1.len, tab2⟩, ?_, fun b z ⟨i, w⟩ => ?_⟩
            · obtain ⟨h1, h2⟩ := Sc.fin i b z
              refine ⟨t2.alive b h1, fun w => ?_⟩
              rcases t2.back b w with w | w | w
              · exact h2 w
              · exact (Town b (s1 b (nE b w))).2.2 ⟨i, z⟩
              · exact h1 w
            · obtain ⟨v, e4, r'⟩ := Sc.rel i d e2
              refine ⟨v, e4, rl_mono r' t2.mono (fun b o e q => t2.frame b o e fun z => ?_) fun b z => z⟩
              rcases q rfl with q | q
              · exact (Stc.fin 0 b ⟨rfl, nE b z⟩).2 q
              · exact (Town b (s1 b (nE b z))).2.2 ⟨i, q⟩
            · refine (Tr.seq (U1 := Fa) (F1 := U FE1) (U2 := F2) t1' ⟨fun b o e n => t2.frame b o e fun z => n (nE b z), t2.mono, fun b z => (t2.back b z).imp id fun w => w.imp (nE b) id, fun b z => (t2.sub b (.inr z)).imp (nE b) id, t2.alive⟩).less fun b z => z.symm
            · rcases t2.sub b (.inr z) with q | q
              · exact (Town b (s1 b (nE b q))).2.2 ⟨i, w⟩
              · exact (Sc.fin i b w).1 q
          refine ⟨by simp only [List.length_cons, List.length_replicate]; omega, fun b => P1 b ∨ Fb b, d0 :: frzs ds, _, Stc, fun i hi b z => ?_, ?_⟩
          · rw [z.1] at hi; exact hi rfl
          · cases e2 : sem (d0 :: frzs ds) with
            | stk => simp only [e2, callR] at q
            | rt d outs =>
              simp only [e2, callR] at q
              intro v P2 H2 FA' F2 S2 T2 t2
              obtain ⟨A1, A2, A3⟩ := after S2.pin S2.tab t2
              exact q v P2 H2 _ F2 A1 ⟨T2.rl, fun b z => ⟨(T2.own b z).1, (T2.own b z).2.1, A3 b z⟩⟩ A2
            | exc xx outs =>
              simp only [e2, callR] at q
              intro cls dx P2 H2 FA' S2 t2 r
              obtain ⟨A1, A2, A3⟩ := after (F2 := E_) S2.pin S2.tab (t2.less fun b z => z.elim id False.elim)
              exact q cls dx P2 H2 _ A1 A2.less' r
      · simp only [if_neg hl] at q
theorem de_callFC {j m : Nat} (C : Cal X.prog X.w X.K X.mg X.base RX x j (true :: List.replicate m false) sem) (hr : Room k X.A) (hj : j ≤ k) (hg : Gl X x) (tk : L2N.Takes X W) (ha : DA X RX W (e :: es) fa) (hdb : (x == ("__debug__" : Str)) = false := by decide)
    (he : starEach (e :: es) X.env = (false, eval e X.env) :: starEach es X.env := by rfl) (hpl : (backTo pos (starEach es X.env)).any (·.1) = false := by rfl) : DE X RX W (.Call (.Name x p) (e :: es) [] pos) (fCallF (m + 1) sem fa) := by
  obtain ⟨f, fd, ps, F, hm, hk, hb⟩ := C.ex
  exact de_callF F (hr.mono hj) hg hm hk hb tk ha hdb he hpl
end
def apF (sem : Fn) (n : Nat) (ds : List D) (ρ1 : Ev) : R D := match ds with
  | d0 :: ds' => if ds'.length + 1 = n then callR (sem (d0 :: frzs ds')) ρ1 fun _ => ρ1 else .stk
  | [] => .stk
@[simp] theorem apF_c {sem : Fn} {n : Nat} {d0 : D} {ds : List D} {ρ : Ev} : apF sem n (d0 :: ds) ρ = if ds.length + 1 = n then callR (sem (d0 :: frzs ds)) ρ fun _ => ρ else .stk := (rfl)
@[simp] theorem ap_callF {n : Nat} {sem : Fn} {fa : Ev → R (List D)} {ρ : Ev} : fCallF n sem fa ρ = (fa ρ).bind fun ds ρ1 => apF sem n ds ρ1 := by
  unfold fCallF apF; rfl
end Hap
namespace Hap
open PySem PySem.Spec PyProof.Rows L2 PySem.W
variable [TabC]
@[simp] theorem ap_while {n : Nat} {c : Ev → R Bool} {g : Ev → RS} {ρ : Ev} : fWhile n c g ρ = whileS c g n ρ := (rfl)
end Hap
namespace Hap
open PySem PySem.Spec PyProof.Rows L2
variable [TabC]
def frzE (ρ : Ev) : Ev := ρ.map (Option.map frz)
def fLook (f : Ev → R D) : Ev → R D := fun ρ => match f (frzE ρ) with
  | .ok d _ => if ownAll d = true then .ok d ρ else .stk
  | _ => .stk
def lookR (r : R D) (ρ : Ev) : R D := match r with
  | .ok d _ => if ownAll d = true then .ok d ρ else .stk
  | _ => .stk
@[simp] theorem lookR_ok {d : D} {ρ ρ' : Ev} : lookR (.ok d ρ') ρ = if ownAll d = true then .ok d ρ else .stk := (rfl)
@[simp] theorem ap_look {f : Ev → R D} {ρ : Ev} : fLook f ρ = lookR (f (frzE ρ)) ρ := by unfold fLook lookR; rfl
@[simp] theorem frzE_nil : frzE [] = [] := (rfl)
@[simp] theorem frzE_c {o : Option D} {ρ : Ev} : frzE (o :: ρ) = o.map frz :: frzE ρ := (rfl)
end Hap
namespace Hap
open PySem PySem.Spec PyProof.Rows L2
variable [TabC]
mutual
/-- no list or dict in it -/
def noL : D → Bool
  | .dcN _ _ _ => false
  | .clo _ _ => false
  | .lst _ _ => false
  | .dct _ _ _ => false
  | .dcT _ _ _ => false
  | .rol _ => false
  | .gv _ => false
  | .xn _ _ _ => false
  | .obj _ _ _ _ => false
  | .tup xs => noLs xs
  | _ => true
def noLs : List D → Bool
  | [] => true
  | d :: ds => noL d && noLs ds
end
def tRes (r : RF) (ρ : Ev) : R D := match r with
  | .rt d _ => if noL d = true then .ok d ρ else .stk
  | _ => .stk
def fCallT (n : Nat) (sem : Fn) (fa : Ev → Option (List D)) : Ev → R D := fun ρ => match fa ρ with
  | some ds => if ds.length = n then tRes (sem (frzs ds)) ρ else .stk
  | none => .stk
section
variable {ρ : Ev} {d : D} {o : Ev} {ds : List D}
@[simp] theorem tRes_rt : tRes (.rt d o) ρ = if noL d = true then .ok d ρ else .stk := (rfl)
@[simp] theorem ap_callT {n sem fa} : fCallT n sem fa ρ = fromV (fa ρ) fun ds => if ds.length = n then tRes (sem (frzs ds)) ρ else .stk := by unfold fCallT fromV; rfl
@[simp] theorem noL_non : noL .non = true := (rfl)
@[simp] theorem noL_int {i} : noL (.int i) = true := (rfl)
@[simp] theorem noL_str {i} : noL (.str i) = true := (rfl)
@[simp] theorem noL_bl {i} : noL (.bl i) = true := (rfl)
@[simp] theorem noL_tup : noL (.tup ds) = noLs ds := (by simp [noL])
@[simp] theorem noLs_nil : noLs [] = true := (rfl)
@[simp] theorem noLs_cons : noLs (d :: ds) = (noL d && noLs ds) := (rfl)
theorem noLs_map {α : Type} {f : α → D} {xs : List α} (h : ∀ x ∈ xs, noL (f x) = true) : noLs (xs.map f) = true := by
  induction xs with
  | nil => rfl
  | cons x xs ih => rw [List.map_cons, noLs_cons, h x List.mem_cons_self, ih fun y hy => h y (List.mem_cons_of_mem _ hy)]; rfl
end
end Hap
namespace Hap
open PySem PySem.Spec PyProof.Rows L2
end Hap
namespace Hap
open PySem PySem.Spec PyProof.Rows L2
end Hap
namespace Hap
open PySem PySem.Spec PyProof.Rows L2
end Hap
namespace Hap
open PySem PySem.Spec PyProof.Rows L2
variable [TabC]
def keysT (d : D) : Option (List Key) := match d with
  | .tup ds => keysOf ds
  | _ => none
def putD (o : D) (e d : D) : Option D := match o with
  | .dct true ks xs => (match keyOf e with
    | some c => if xs.length < sizeLine then some (.dct true (putKs ks xs c d).1 (putKs ks xs c d).2) else none
    | none => none)
  | .dcT true ks xs => (match keysT e with
    | some c => if xs.length < sizeLine then some (.dcT true (putKs ks xs c d).1 (putKs ks xs c d).2) else none
    | none => none)
  | _ => none
def fPutD (i : Nat) (f k : Ev → R D) : Ev → RS := fun ρ => RS.of (f ρ) fun d ρ1 => match ρ1[i]? with
  | some (some _) => RS.of (k ρ1) fun e ρ2 => (match ρ2[i]? with
    | some (some o) => (match putD o e (frz d) with
      | some o' => .nx (ρ2.set i (some o'))
      | none => .stk)
    | _ => .stk)
  | _ => .stk
theorem Tr.noF {P P' : AS} {H H' : Hp} {U U' : AS} (t : Tr P H (fun b => U b ∨ E_ b) P' H' U') : Tr P H U P' H' U' where
  frame := fun b o e n => t.frame b o e fun z => z.elim n fun w => w.elim
  mono := t.mono
  back := fun b z => (t.back b z).imp id fun w => w.imp (fun u => u.elim id fun w => w.elim) id
  sub := fun b z => (t.sub b z).imp (fun u => u.elim id fun w => w.elim) id
  alive := t.alive
section
variable {X : Cx} {RX : RXR} {W : WX} {kp : List Nat}
theorem ds_putD {s : Stmt} {i : Nat} {f k : Ev → R D} (h : PS X s (tAsg (tE X.K RX W f) (L2.gSub (tVar i) (tE X.K RX W k) rSetD))) : DS X RX W kp s (fPutD i f k) := by
  refine ps_imp h fun D σ H q => ?_
  obtain ⟨P, ρ, FE, S, q⟩ := q
  refine ⟨P, ρ, FE, S, ?_⟩
  unfold fPutD at q
  cases e : f ρ with
  | exc x ρ1 => simp only [e, RS.of] at q; exact fun cls dx P' H' FE' S' t r => q cls dx σ P' H' FE' S' t Kp.refl r
  | stk => simp only [e, RS.of] at q; exact q.elim
  | ok d ρ1 =>
    simp only [e, RS.of] at q
    intro v P1 H1 FE1 F1 S1 T1 t1
    split at q
    · rename_i d0 e0
      obtain ⟨vp, ev, _⟩ := S1.rel i _ e0
      have S1' := S1.give fun b z => ⟨(T1.own b z).1, (T1.own b z).2.2⟩
      have t1' := t1.give
      have rd : Rl true X.K (fun b => P1 b ∨ F1 b) H1 (frz d) v E_ := rl_frz T1.rl (fun b z => .inl z) fun b z => .inr z
      refine ⟨vp, ev, _, ρ1, FE1, S1', ?_⟩
      cases e1 : k ρ1 with
      | exc x ρ2 => simp only [e1] at q; exact fun cls dx P' H' FE' S' t r => q cls dx σ P' H' FE' S' (t1'.trans t) Kp.refl r
      | stk => simp only [e1] at q; exact q.elim
      | ok ee ρ2 =>
        simp only [e1] at q
        intro w P2 H2 FE2 F2 S2 T2 t2
        have rd2 : Rl true X.K P2 H2 (frz d) v E_ := rl_mono rd (fun b z => t2.mono b z) (fun b o e z => t2.frame b o e fun ⟨j, y⟩ => (S1'.fin j b y).2 ((z rfl).elim id False.elim)) fun _ z => z
        split at q
        · rename_i o e3
          cases eg : putD o ee (frz d) with
          | none => simp only [eg] at q; exact q.elim
          | some o' =>
            simp only [eg] at q
            unfold putD at eg
            split at eg
            · rename_i ks xs
              split at eg
              · rename_i c ec
                by_cases hl : xs.length < sizeLine
                · rw [if_pos hl] at eg; cases eg
                  obtain ⟨p, vs, F', ev', h1, l, h2, h3, h4⟩ := slot_dct S2 e3
                  rw [ev] at ev'; cases ev'
                  have nP := (S2.fin i p h2).2
                  have nF' : ¬ F' p := fun z => (h3 p z).2 rfl
                  obtain ⟨vs', k1, k2, k3⟩ := put_ok (rls_upd (o := .dK (putK (ks.zip vs) c v)) h4 nP nF') (isImm_frz d) (rl_upd rd2 nP fun z => z) l (k := c)
                  obtain ⟨S3, t3⟩ := slot_write (F1 := E_) (o := .dK (putK (ks.zip vs) c v)) (d' := .dct true (putKs ks xs c (frz d)).1 (putKs ks xs c (frz d)).2) S2 h1 .dK ev h2 (fun b z => z.elim)
                    (.dctO (F' := F') upd_same k1 k2 (fun _ => .inl h2) (fun b z => ⟨.inl (h3 b z).1, (h3 b z).2⟩) k3)
                  have hz : (ks.zip vs).length < sizeLine := by rw [List.length_zip, l, Nat.min_self, ← rls_len h4]; exact hl
                  exact ⟨p, _, rfl, .inl ⟨_, c, h1, keyOf_rl T2.rl ec, hz, rfl⟩, q σ P2 _ _ S3 (t1'.trans (t2.less'.trans (Tr.noF t3))) Kp.refl⟩
                · rw [if_neg hl] at eg; cases eg
              · cases eg
            · rename_i ks xs
              split at eg
              · rename_i c ec
                by_cases hl : xs.length < sizeLine
                · rw [if_pos hl] at eg; cases eg
                  obtain ⟨p, vs, F', ev', h1, l, h2, h3, h4⟩ := slot_dcT S2 e3
                  rw [ev] at ev'; cases ev'
                  have nP := (S2.fin i p h2).2
                  have nF' : ¬ F' p := fun z => (h3 p z).2 rfl
                  obtain ⟨vs', k1, k2, k3⟩ := put_ok (rls_upd (o := .dT (putK (ks.zip vs) c v)) h4 nP nF') (isImm_frz d) (rl_upd rd2 nP fun z => z) l (k := c)
                  obtain ⟨S3, t3⟩ := slot_write (F1 := E_) (o := .dT (putK (ks.zip vs) c v)) (d' := .dcT true (putKs ks xs c (frz d)).1 (putKs ks xs c (frz d)).2) S2 h1 .dT ev h2 (fun b z => z.elim)
                    (.dcTO (F' := F') upd_same k1 k2 (fun _ => .inl h2) (fun b z => ⟨.inl (h3 b z).1, (h3 b z).2⟩) k3)
                  have hz : (ks.zip vs).length < sizeLine := by rw [List.length_zip, l, Nat.min_self, ← rls_len h4]; exact hl
                  unfold keysT at ec
                  split at ec
                  · rename_i ds
                    cases T2.rl with
                    | tup eb pb rb =>
                      rw [keysOf_rls rb ec] at eb
                      exact ⟨p, _, rfl, .inr ⟨_, c, _, h1, rfl, eb, hz, rfl⟩, q σ P2 _ _ S3 (t1'.trans (t2.less'.trans (Tr.noF t3))) Kp.refl⟩
                  · cases ec
                · rw [if_neg hl] at eg; cases eg
              · cases eg
            · cases eg
        · exact q.elim
    · exact q.elim
end
def fDNewK : Ev → R D := fun ρ => .ok (.dct true [] []) ρ
def fDNewT : Ev → R D := fun ρ => .ok (.dcT true [] []) ρ
section
variable {X : Cx} {RX : RXR} {W : WX} {pos : Pos}
theorem de_dnewT : DE X RX W (.Dict [] [] pos) fDNewT := by
  refine pe_imp pe_dnewT fun σ H Q q => ?_
  obtain ⟨P, ρ, FE, S, q⟩ := q
  intro p hp
  have n : New P H P (upd H p (.dT [])) (fun b => b = p) := New.lst hp S.pin
  have r : Rl true X.K P (upd H p (.dT [])) (.dcT true [] []) (.ref p) (fun b => b = p) := .dcTO (F' := E_) (vs := []) upd_same rfl rfl (fun _ => rfl) (fun b z => z.elim) .nil
  exact q (.ref p) P _ FE _ (n.stt S) (n.tmp S r) n.tr
end
def putR (o : Option (Option D)) (i : Nat) (e d : D) (ρ : Ev) : RS := match o with
  | some (some o) => (match putD o e (frz d) with
    | some o' => .nx (ρ.set i (some o'))
    | none => .stk)
  | _ => .stk
@[simp] theorem ap_dnewK {ρ : Ev} : fDNewK ρ = .ok (.dct true [] []) ρ := (rfl)
@[simp] theorem ap_dnewT {ρ : Ev} : fDNewT ρ = .ok (.dcT true [] []) ρ := (rfl)
@[simp] theorem ap_putD {i : Nat} {f k : Ev → R D} {ρ : Ev} : fPutD i f k ρ = RS.of (f ρ) fun d ρ1 => isSS ρ1[i]? (RS.of (k ρ1) fun e ρ2 => putR ρ2[i]? i e d ρ2) := by
  unfold fPutD isSS putR; rfl
end Hap
namespace Hap
open PySem PySem.Spec PyProof.Rows L2
variable [TabC]
def isDct (d : D) : Bool := match d with
  | .dct _ _ _ => true
  | .dcT _ _ _ => true
  | _ => false
def getD2 (o e x : D) : Option D := match o with
  | .dct _ ks xs => (keyOf e).bind fun c => if isImms xs = true then some ((getK ks xs c).getD (frz x)) else none
  | .dcT _ ks xs => (keysT e).bind fun c => if isImms xs = true then some ((getK ks xs c).getD (frz x)) else none
  | _ => none
def fDGet (i : Nat) (fk fx : Ev → R D) : Ev → R D := fun ρ => match ρ[i]? with
  | some (some o0) => if isDct o0 = true then (fk ρ).bind fun e ρ1 => (fx ρ1).bind fun x ρ2 => match ρ2[i]? with
    | some (some o) => if isImm e = true then R.of (getD2 o e x) ρ2 else .stk
    | _ => .stk
    else .stk
  | _ => .stk
theorem getK_imm {κ : Type} [DecidableEq κ] : ∀ {ks : List κ} {xs : List D} {k : κ} {d : D}, isImms xs = true → getK ks xs k = some d → isImm d = true
  | [], _, _, _, _, e => by simp [getK] at e
  | _ :: _, [], _, _, _, e => by simp [getK] at e
  | k' :: ks, x :: xs, k, d, h, e => by
    simp only [isImms, Bool.and_eq_true] at h
    simp only [getK] at e
    by_cases c : k' = k
    · rw [if_pos c] at e; cases e; exact h.1
    · rw [if_neg c] at e; exact getK_imm h.2 e
section
variable {X : Cx} {RX : RXR} {W : WX}
theorem de_dget {o e f : Expr} {apos cpos : Pos} {i : Nat} {fk fx : Ev → R D} (hu : X.A.units + 1 < cLine) (ho : PE X o (tVar i)) (he : DE X RX W e fk) (hf : DE X RX W f fx) (m : M2 X o "get" apos e f cpos) : DE X RX W (.Call (.Attribute o "get" apos) [e, f] [] cpos) (fDGet i fk fx) := by
  refine pe_imp (pe_dget2 hu ho he hf m) fun σ H Q q => ?_
  obtain ⟨P, ρ, FE, S, q⟩ := q
  unfold fDGet at q
  cases e0 : ρ[i]? with
  | none => simp only [e0] at q
  | some oo =>
  cases oo with
  | none => simp only [e0] at q
  | some o0 =>
  simp only [e0] at q
  by_cases hd : isDct o0 = true
  · simp only [if_pos hd] at q
    obtain ⟨v, ev, r⟩ := S.rel i _ e0
    obtain ⟨a, rfl, isd⟩ : ∃ a, v = .ref a ∧ IsD H a := by
      cases o0 with
      | dct o ks xs => obtain ⟨p, vs, rfl, e1, _, _⟩ := dct_read r; exact ⟨p, rfl, .inl ⟨_, e1⟩⟩
      | dcT o ks xs => obtain ⟨p, vs, rfl, e1, _, _⟩ := dcT_read r; exact ⟨p, rfl, .inr ⟨_, e1⟩⟩
      | _ => cases hd
    refine ⟨.ref a, ev, a, rfl, isd, P, ρ, FE, S, ?_⟩
    cases e1 : fk ρ with
    | exc x ρ1 => simp only [e1, R.bind] at q; exact q
    | stk => simp only [e1, R.bind] at q
    | ok ee ρ1 =>
      simp only [e1, R.bind] at q
      intro y P1 H1 FE1 F1 S1 T1 t1
      refine ⟨P1, ρ1, FE1, S1, ?_⟩
      cases e2 : fx ρ1 with
      | exc x ρ2 => simp only [e2] at q; exact fun cls dx P' H' FE' S' t r => q cls dx P' H' FE' S' (t1.less'.trans t) r
      | stk => simp only [e2] at q
      | ok xx ρ2 =>
        simp only [e2] at q
        intro z P2 H2 FE2 F2 S2 T2 t2
        cases e3 : ρ2[i]? with
        | none => simp only [e3] at q
        | some oo =>
        cases oo with
        | none => simp only [e3] at q
        | some o =>
        simp only [e3] at q
        by_cases hi : isImm ee = true
        · simp only [if_pos hi] at q
          obtain ⟨v', ev', r'⟩ := S2.rel i _ e3
          rw [ev] at ev'; cases ev'
          obtain ⟨T1', _⟩ := T1.step S1 t2
          have tt := t1.less'.trans t2
          cases eg : getD2 o ee xx with
          | none => simp only [eg, R.of] at q
          | some d =>
            simp only [eg, R.of] at q
            unfold getD2 at eg
            split at eg
            · rename_i oo ks xs
              cases ec : keyOf ee with
              | none => rw [ec] at eg; cases eg
              | some c =>
                rw [ec] at eg
                simp only [Option.bind] at eg
                by_cases im : isImms xs = true
                · rw [if_pos im] at eg
                  obtain ⟨p, vs, ep, h1, l, rs⟩ := dct_read r'
                  cases ep
                  refine ⟨valV (ks.zip vs) c, .inl ⟨_, c, h1, keyOf_rl T1.rl ec, rfl⟩, ?_⟩
                  cases eg2 : getK ks xs c with
                  | none =>
                    rw [eg2] at eg; cases eg
                    rw [getK_none rs l eg2]
                    exact q z (fun b => P2 b ∨ F2 b) H2 FE2 E_ (S2.give fun b z => ⟨(T2.own b z).1, (T2.own b z).2.2⟩) ⟨rl_frz T2.rl (fun b z => .inl z) fun b z => .inr z, fun b z => z.elim⟩ (tt.give.less fun b z => z.elim id fun w => w.elim)
                  | some d' =>
                    rw [eg2] at eg; cases eg
                    obtain ⟨u, hu1, hu2⟩ := getK_some rs l eg2
                    rw [hu1]
                    exact q u P2 H2 FE2 E_ S2 ⟨rl_imm hu2 (getK_imm im eg2), fun b z => z.elim⟩ (tt.less fun b z => z.elim .inl fun w => w.elim)
                · rw [if_neg im] at eg; cases eg
            · rename_i oo ks xs
              cases ec : keysT ee with
              | none => rw [ec] at eg; cases eg
              | some c =>
                rw [ec] at eg
                simp only [Option.bind] at eg
                by_cases im : isImms xs = true
                · rw [if_pos im] at eg
                  obtain ⟨p, vs, ep, h1, l, rs⟩ := dcT_read r'
                  cases ep
                  unfold keysT at ec
                  split at ec
                  · rename_i ds
                    cases T1'.rl with
                    | tup eb pb rb =>
                      rw [keysOf_rls rb ec] at eb
                      refine ⟨valV (ks.zip vs) c, .inr ⟨_, c, _, h1, rfl, eb, rfl⟩, ?_⟩
                      cases eg2 : getK ks xs c with
                      | none =>
                        rw [eg2] at eg; cases eg
                        rw [getK_none rs l eg2]
                        exact q z (fun b => P2 b ∨ F2 b) H2 FE2 E_ (S2.give fun b z => ⟨(T2.own b z).1, (T2.own b z).2.2⟩) ⟨rl_frz T2.rl (fun b z => .inl z) fun b z => .inr z, fun b z => z.elim⟩ (tt.give.less fun b z => z.elim id fun w => w.elim)
                      | some d' =>
                        rw [eg2] at eg; cases eg
                        obtain ⟨u, hu1, hu2⟩ := getK_some rs l eg2
                        rw [hu1]
                        exact q u P2 H2 FE2 E_ S2 ⟨rl_imm hu2 (getK_imm im eg2), fun b z => z.elim⟩ (tt.less fun b z => z.elim .inl fun w => w.elim)
                  · cases ec
                · rw [if_neg im] at eg; cases eg
            · cases eg
        · simp only [if_neg hi] at q
  · simp only [if_neg hd] at q
end
def dctO (o : Option (Option D)) (k : R D) : R D := match o with
  | some (some o0) => if isDct o0 = true then k else .stk
  | _ => .stk
def getR (o : Option (Option D)) (e x : D) (ρ : Ev) : R D := match o with
  | some (some o) => if isImm e = true then R.of (getD2 o e x) ρ else .stk
  | _ => .stk
theorem ap_dget {i : Nat} {fk fx : Ev → R D} {ρ : Ev} : fDGet i fk fx ρ = dctO ρ[i]? ((fk ρ).bind fun e ρ1 => (fx ρ1).bind fun x ρ2 => getR ρ2[i]? e x ρ2) := by
  unfold fDGet dctO getR; rfl
end Hap
namespace Hap
open PySem PySem.Spec PyProof.Rows L2
end Hap
namespace Hap
open PySem PySem.Spec PyProof.Rows L2
end Hap
namespace Hap
open PySem PySem.Spec PyProof.Rows L2
variable [TabC]
def excN : List Str := ["NoHouse", "NoRow", "NoMachine", "NoRoom", "NoHand", "Unlike", "NoPast", "TooMany", "Torn", "NoTable", "NoSet", "Falls", "Whole", "NoText", "NoWord"]
abbrev bmV : List Value := [.type "ValueError", .type "Exception", .type "BaseException", .type "object"]
/-- what the written part says of a class of refusals at C, right under the one at CH -/
structure EC (K : PySem.W.Frag) (CH C : Addr) : Prop where
  cl : ∃ cd, PySem.W.clsIn K C = some cd ∧ cd.mro = .ref C :: .ref CH :: bmV
  ty : PySem.W.typeIn K (.ref C) = some (.type "type")
  kp : PySem.W.keepIn K (.ref C) = true
  ga : PySem.W.findIn K (.ref C) "__getattribute__" = some (some (.builtin "BaseException.__getattribute__"))
  gt : PySem.W.findIn K (.ref C) "__getattr__" = some none
  ca : PySem.W.findIn K (.ref C) "__class__" = some (some (.builtin "object.__class__"))
structure ETab (K : PySem.W.Frag) (mg : Str → Option Value) (CH : Addr) (cs : List Addr) : Prop where
  len : cs.length ≤ 15
  g : ∀ (i : Nat) (C : Addr) (n : Str), cs[i]? = some C → excN[i]? = some n → mg n = some (.ref C)
  ent : ∀ C ∈ cs, EC K CH C
  nd : (CH :: cs).Nodup
  gH : mg "HandError" = some (.ref CH)
  clH : ∃ cd, PySem.W.clsIn K CH = some cd ∧ cd.mro = .ref CH :: bmV
  tyH : PySem.W.typeIn K (.ref CH) = some (.type "type")
  nn : PySem.W.specialIn K (.builtin "object.__class__") "__get__" = some (some (.builtin "getset_descriptor.__get__"))
  tk : PySem.W.takesIn K (.builtin "object.__class__") = some true
section
variable {K : PySem.W.Frag} {mg : Str → Option Value} {CH C C' : Addr} {cs : List Addr} {i j : Nat}
theorem EC.sub (c : EC K CH C) (v : Value) : PySem.W.subIn K (.ref C) v = some ((Value.ref C :: .ref CH :: bmV).contains v) := by
  obtain ⟨cd, e, m⟩ := c.cl
  show PySem.W.mroIn K C v = _
  unfold PySem.W.mroIn
  rw [e, Option.bind_some, m]; rfl
theorem EC.raises {X : Cx} (c : EC X.K CH C) : Raises X (.ref C) := raises_own ((c.sub _).trans (by simp)) c.ty
theorem ETab.ne (T : ETab K mg CH cs) (hi : cs[i]? = some C) (hj : cs[j]? = some C') : (C = C') = (i = j) := by
  have nd := (List.nodup_cons.mp T.nd).2
  have hi' := (List.getElem?_eq_some_iff.mp hi)
  obtain ⟨li, ei⟩ := hi'
  obtain ⟨lj, ej⟩ := List.getElem?_eq_some_iff.mp hj
  rw [← ei, ← ej, eq_iff_iff]
  constructor
  · intro e
    have h1 : cs[i]? = some C' := by rw [hi, ← ei, e, ej]
    by_cases z : i = j
    · exact z
    · exfalso
      have := List.pairwise_iff_getElem.mp nd
      rcases Nat.lt_or_gt_of_ne z with l | l
      · exact this i j li lj l e
      · exact this j i lj li l e.symm
  · intro e; subst e; rfl
theorem ETab.neH (T : ETab K mg CH cs) (hi : cs[i]? = some C) : C ≠ CH := fun e => (List.nodup_cons.mp T.nd).1 (e ▸ List.mem_of_getElem? hi)
theorem ETab.kitV (T : ETab K mg CH cs) (hi : cs[i]? = some C) : PySem.W.kitOne K (.ref C) (.type "ValueError") = some true := by
  have c := T.ent C (List.mem_of_getElem? hi)
  unfold PySem.W.kitOne
  rw [if_neg (by simp)]
  show (if PySem.W.kitMeta "ValueError" = true then PySem.W.subIn K (.ref C) (.type "ValueError") else none) = _
  rw [if_pos (by decide +kernel), c.sub]; simp
theorem ETab.exm (T : ETab K mg CH cs) (hi : cs[i]? = some C) (hj : cs[j]? = some C') : PySem.W.exmOne K (.ref C) (.ref C') = some (decide (i = j)) := by
  have c := T.ent C (List.mem_of_getElem? hi)
  have c' := T.ent C' (List.mem_of_getElem? hj)
  have ne := T.ne hi hj
  obtain ⟨cd, q, _⟩ := c'.cl
  unfold PySem.W.exmOne
  rw [if_pos (by rw [c'.sub]; simp)]
  show (if ((PySem.W.clsIn K C').isSome && PySem.W.typeIn K (.ref C') == some (.type "type")) = true then PySem.W.subIn K (.ref C) (.ref C') else none) = _
  rw [if_pos (by rw [q, c'.ty]; rfl), c.sub]
  have n2 := T.neH hj
  have n3 : (C' = C) = (i = j) := by rw [← ne, eq_iff_iff]; exact ⟨Eq.symm, Eq.symm⟩
  simp [n2, n3]
end
/-- the fields of a refusal -/
def fldN (n : Str) : List Str := if n = "Torn" then ["place", "row"] else if n = "Falls" then ["row"] else []
/-- a refusal at the heap -/
def RXP (cs : List Addr) : RXR := fun x P H cls dx => ∃ (i : Nat) (C : Addr), cs[i]? = some C ∧ excN[i]? = some x.cls ∧ cls = .ref C ∧
  ((x.args = [] ∧ dx = none) ∨ ∃ d, dx = some d ∧ P d ∧ H d = some (.xd ((fldN x.cls).zip (x.args.map toV))) ∧ x.args.all flatD = true ∧ x.args ≠ [])
def fRaise (n : Str) : Ev → RS := fun ρ => .exc ⟨n, []⟩ ρ
section
variable {X : Cx} {W : WX} {kp : List Nat} {CH C : Addr} {cs : List Addr} {i : Nat} {x m : Str} {j : Nat} {p p2 p3 pos : Pos}
theorem ds_raise (T : ETab X.K X.mg CH cs) (hx : PySem.W.excIn X.K C bmV "ValueError.__new__" = true) (hi : cs[i]? = some C) (hn : excN[i]? = some x) (hc : X.calm = true) (tk : L2N.Takes X W) (hg : Gl X x) (hdb : (x == ("__debug__" : Str)) = false := by decide) :
    DS X (RXP cs) W kp (.Raise (some (.Call (.Name x p) [.Constant (.str m) j p2] [] p3)) none pos) (fRaise x) := by
  have c := T.ent C (List.mem_of_getElem? hi)
  refine ps_imp (L2N.ps_raise hc tk (L2N.pmk_own PySem.F.excBase_ValueError hx (T.g i C x hi hn) c.kp c.raises hg hdb)) fun D σ H q => ?_
  obtain ⟨P, ρ, FE, S, q⟩ := q
  exact q (.ref C) none σ P H FE S Tr.refl Kp.refl ⟨i, C, hi, hn, rfl, .inl ⟨rfl, rfl⟩⟩
end
structure FnHp (P : Program) (w : World) (K : PySem.W.Frag) (mg : Str → Option Value) (base : Heap) (CX : CXT) (k : Nat) (f : Addr) (fd : FuncData) (ps : List Str) (sp : Addr × Obj → Sp) : Prop where
  len : ∀ p vs H Q E, sp p vs H Q E → vs.length = ps.length
  run : ∀ (A : Around) (outer : List Env) (s : Shared) (H : Hp) (args : Args) (us : List Value) (vs : List V) (Q : VK) (E : XK) (p : Addr × Obj), L2H.RoomH k A → L2H.Hot1 A p → L2H.PinOk outer H s p → Env0 P w K mg base A outer s H → BindsTo s fd args (ps.zip us) → Vals vs us → sp p vs H Q E →
    codeAny (model P w) A (.call (.ref f) args) (CR CX outer P w H s Q E) s
end Hap
namespace Hap
open PySem PySem.Spec PyProof.Rows L2
variable [TabC]
/-- the dict of an exception is there -/
def DkO (o : Option Addr) (H : Hp) : Prop := o = none ∨ ∃ p fs, o = some p ∧ H p = some (.xd fs)
def rIsE' (K : PySem.W.Frag) (D a : Addr) (o : Option Addr) : List V → Hp → VK → Prop := fun xs H Q => ∃ (c : V) (cv : Value) (b : Bool), xs = [.ref a, c] ∧ (∀ u, RelV c u → u = cv) ∧ PySem.W.kitOne K (.ref D) cv = some b ∧ DkO o H ∧ Q (.bl b) H
section
variable {X : Cx} {a CH D : Addr} {oe : Obj} {cs : List Addr} {i : Nat} {b : Bool}
theorem call_isE' (T : ETab X.K X.mg CH cs) (c : EC X.K CH D) (hp : (a, oe) ∈ X.pn) (hc : oe.cls = .ref D) (hf : ∃ vs, oe.data = .fields vs) : CallR X (.builtin "isinstance") (rIsE' X.K D a oe.dict) := by
  intro pins s σ H xs us Q I r h
  obtain ⟨k, cv, b, rfl, hcv, e, hk, q⟩ := h
  cases r with
  | cons rx rr =>
    cases rr with
    | cons rt rr =>
      cases rr
      cases rx
      have ec := hcv _ rt
      subst ec
      have at_ := (I.pin (a, oe) (List.mem_append_left _ hp)).1
      have J : ∃ od, PySem.W.InstAt s.heap a oe D od := by
        have nc : PySem.W.notCls oe = true := by
          obtain ⟨vs, e⟩ := hf
          unfold PySem.W.notCls; rw [e]
        rcases hk with z | ⟨p, fs, z, ez⟩
        · exact ⟨none, at_, hc, nc, by rw [z]; trivial⟩
        · have hx : ObjOk X.prog X.w H s.heap p (.xd fs) := I.hok p _ ez
          obtain ⟨mA, hns, _⟩ := hx
          obtain ⟨o, es, ep, ho, _⟩ := hns
          exact ⟨some o, at_, hc, nc, by rw [z]; exact ho⟩
      obtain ⟨od, J⟩ := J
      obtain ⟨cd, e1, _⟩ := c.cl
      refine PySem.W.kia_one (PySem.W.kitx_exc (by rw [e1]; rfl) c.ga c.gt ((c.sub _).trans (by simp)) c.ca T.nn T.tk ((c.sub _).trans (by simp))) I.kIn J e (fun z => nomatch z) fun tk => ?_
      exact ⟨.bl b, H, I.kept (t' := tk) fun _ _ z => z, rfl, q⟩
end
/-- all stands as it did, more may stand beside -/
def Up (H H' : Hp) : Prop := (∀ b o, H b = some o → NT o → H' b = some o) ∧ (∀ b, H b ≠ none → H' b ≠ none) ∧ NdefX.TabsN TabC.T H'
end Hap
namespace Hap
open PySem PySem.Spec PyProof.Rows L2
variable [TabC]
/-- what the suite does with an exception at a: it is at slot i; it gives back the datum that its name has -/
def tsW (K : PySem.W.Frag) (cs : List Addr) (i : Nat) (res : Str → D) : Addr → Value → Option Addr → TS := fun a cls d D σ H =>
  σ[i]? = some (some (.ref a)) ∧ NdefX.TabsN TabC.T H ∧ d = none ∧ ∃ (j : Nat) (C : Addr) (nm : Str), cs[j]? = some C ∧ excN[j]? = some nm ∧ cls = .ref C ∧
    ∃ P : AS, (∀ b, P b → H b ≠ none) ∧ ∀ v P' H', New P H P' H' E_ → Rl true K P' H' (res nm) v E_ → D.rt v H'
def fTryH (res : Str → D) (g : Ev → RS) : Ev → RS := fun ρ => match g ρ with
  | .exc x ρ' => if x.args.isEmpty = true then .rt (res x.cls) ρ' else .stk
  | .nx ρ' => .nx ρ'
  | .rt d ρ' => .rt d ρ'
  | .bk ρ' => .bk ρ'
  | .ct ρ' => .ct ρ'
  | .stk => .stk
section
variable {X : Cx} {CH : Addr} {cs : List Addr} {i k : Nat} {x : Str} {f : Addr} {fd : FuncData} {ps : List Str} {a : Addr} {oe : Obj} {cls : Value} {d : Option Addr} {pn : List (Addr × Obj)}
theorem FnHp.mono {P : Program} {w : World} {K : PySem.W.Frag} {mg : Str → Option Value} {base : Heap} {CX : CXT} {j k : Nat} {f : Addr} {fd : FuncData} {ps : List Str} {sp : Addr × Obj → Sp} (F : FnHp P w K mg base CX j f fd ps sp) (h : j ≤ k) : FnHp P w K mg base CX k f fd ps sp :=
  ⟨F.len, fun A outer s H args us vs Q E p hr => F.run A outer s H args us vs Q E p (hr.mono h)⟩
theorem Up.new {P : AS} {H H' : Hp} (u : Up H H') (pin : ∀ b, P b → H b ≠ none) : New P H (pinN P H H') H' E_ := New.pinN u.1 u.2.1 u.2.2 pin fun _ z => z.elim
end
end Hap
namespace Hap
open PySem PySem.Spec PyProof.Rows L2
variable [TabC]
/-- the classes, and that those without an own __init__ are made with a text -/
structure ETx (K : PySem.W.Frag) (mg : Str → Option Value) (CH : Addr) (cs : List Addr) : Prop where
  tab : ETab K mg CH cs
  ex : ∀ i, i ≠ 8 → i ≠ 11 → ∀ C, cs[i]? = some C → PySem.W.excIn K C bmV "ValueError.__new__" = true
def spTop (K : PySem.W.Frag) (io : List Bool) (sem : Fn) : Sp := fun vs H Q E => ∀ RX : RXR, spD K RX io sem vs H Q E
theorem fnOk_top {P : Program} {w : World} {K : PySem.W.Frag} {mg : Str → Option Value} {base : Heap} {CX : CXT} {k : Nat} {f : Addr} {fd : FuncData} {ps : List Str} {RX : RXR} {io : List Bool} {sem : Fn} (F : FnOk P w K mg base CX k f fd ps (spD K RX io sem)) : FnOk P w K mg base CX k f fd ps (spTop K io sem) :=
  ⟨fun vs H Q E h => F.len vs H Q E (h RX), fun A outer s H args us vs Q E hr e0 hb r h => F.run A outer s H args us vs Q E hr e0 hb r (h RX)⟩
end Hap
namespace Hap
open PySem PySem.Spec PyProof.Rows L2
variable [TabC]
def fFz (f : Ev → R D) : Ev → R D := fun ρ => (f ρ).bind fun d ρ' => .ok (frz d) ρ'
section
variable {X : Cx} {RX : RXR} {W : WX} {e : Expr}
theorem de_fz {f : Ev → R D} (h : DE X RX W e f) : DE X RX W e (fFz f) := by
  refine pe_imp h fun σ H Q q => ?_
  obtain ⟨P, ρ, FE, S, q⟩ := q
  refine ⟨P, ρ, FE, S, ?_⟩
  unfold fFz at q
  cases e1 : f ρ with
  | exc x ρ1 => simp only [e1, R.bind] at q; exact q
  | stk => simp only [e1, R.bind] at q
  | ok d ρ1 =>
    simp only [e1, R.bind] at q
    intro v P1 H1 FE1 F1 S1 T1 t1
    exact q v (fun b => P1 b ∨ F1 b) H1 FE1 E_ (S1.give fun b z => ⟨(T1.own b z).1, (T1.own b z).2.2⟩) ⟨rl_frz T1.rl (fun b z => .inl z) (fun b z => .inr z), fun b z => z.elim⟩ (t1.give.less fun b z => z.elim id False.elim)
end
@[simp] theorem ap_fz {f : Ev → R D} {ρ : Ev} : fFz f ρ = (f ρ).bind fun d ρ' => .ok (frz d) ρ' := (rfl)
end Hap
namespace Hap
open PySem PySem.Spec PyProof.Rows L2
local instance : TabC := noTab
def tryR (res : Str → D) (r : RS) : RS := match r with
  | .exc x ρ' => if x.args.isEmpty = true then .rt (res x.cls) ρ' else .stk
  | .nx ρ' => .nx ρ'
  | .rt d ρ' => .rt d ρ'
  | .bk ρ' => .bk ρ'
  | .ct ρ' => .ct ρ'
  | .stk => .stk
section
variable {ρ : Ev} {d : D} {res : Str → D} {n : Str} {g : Ev → RS}
@[simp] theorem ap_try : fTryH res g ρ = tryR res (g ρ) := by unfold fTryH tryR; rfl
@[simp] theorem ap_raise : fRaise n ρ = .exc ⟨n, []⟩ ρ := (rfl)
@[simp] theorem tryR_exc : tryR res (.exc ⟨n, []⟩ ρ) = .rt (res n) ρ := (rfl)
@[simp] theorem tryR_nx : tryR res (.nx ρ) = .nx ρ := (rfl)
@[simp] theorem tryR_rt : tryR res (.rt d ρ) = .rt d ρ := (rfl)
end
end Hap
namespace Hap
open PySem PySem.Spec PyProof.Rows L2
end Hap
namespace Hap
open PySem PySem.Spec PyProof.Rows L2
variable [TabC]
/-- what is wished of a refusal -/
def EAns (K : PySem.W.Frag) (cs : List Addr) (Q : VK) : XK := fun cls d H => d = none ∧ NdefX.TabsN TabC.T H ∧ ∃ (j : Nat) (C : Addr) (nm : Str), cs[j]? = some C ∧ excN[j]? = some nm ∧ cls = .ref C ∧
  ∃ P : AS, (∀ b, P b → H b ≠ none) ∧ ∀ v P' H', New P H P' H' E_ → Rl true K P' H' (.tup [.str "refused", .str nm]) v E_ → Q v H'
def TAns (K : PySem.W.Frag) (cs : List Addr) (tl : XK → Hp → VK → Prop) (H : Hp) (Q : VK) : Prop := ∀ (E' : XK) (Q' : VK), (∀ cls d H', EAns K cs Q cls d H' → E' cls d H') →
  (∀ v H', (∀ p, H' p = none → Q (.ref p) (upd H' p (.tup [.str "told", v]))) → Q' v H') → tl E' H Q'
theorem Up.stt {K : PySem.W.Frag} {P : AS} {H H' : Hp} {ρ : Ev} {σ : L2.St} {FE : FP} (u : Up H H') (S : Stt K P H ρ σ FE) : Stt K (pinN P H H') H' ρ σ FE := (u.new (P := P) S.pin).stt S
theorem Up.trans {H H1 H2 : Hp} (u : Up H H1) (v : Up H1 H2) : Up H H2 := ⟨fun b o e n => v.1 b o (u.1 b o e n) n, fun b e => v.2.1 b (u.2.1 b e), v.2.2⟩
mutual
/-- every list and dict one's own; tuples -/
def newAll : D → Bool
  | .lst o xs => o && newAlls xs
  | .dct o _ xs => o && newAlls xs
  | .dcT o _ xs => o && newAlls xs
  | .dcN o _ xs => o && newAlls xs
  | .any => false
  | .clo _ _ => false
  | .tup xs => newAlls xs
  | .rol _ => false
  | .gv _ => false
  | .xn _ _ _ => false
  | .obj _ _ _ _ => false
  | _ => true
def newAlls : List D → Bool
  | [] => true
  | d :: ds => newAll d && newAlls ds
end
def fAns (g : Ev → R D) : Ev → R D := fun ρ => match g (frzE ρ) with
  | .ok d _ => if newAll d = true then .ok (.tup [.str "told", d]) ρ else .stk
  | .exc x _ => if x.args.isEmpty = true then .ok (.tup [.str "refused", .str x.cls]) ρ else .stk
  | .stk => .stk
/-- the refusal alone -/
def fRef (g : Ev → R D) (n : Str) : Ev → R D := fun ρ => match g (frzE ρ) with
  | .exc x _ => if x.args.isEmpty = true then .ok (.bl (decide (x.cls = n))) ρ else .stk
  | _ => .stk
end Hap
namespace Hap
open PySem PySem.Spec PyProof.Rows L2
variable [TabC]
theorem TAns.imp {K : PySem.W.Frag} {cs : List Addr} {tl : XK → Hp → VK → Prop} {H : Hp} {Q Q' : VK} (h : TAns K cs tl H Q) (w : ∀ v H', Q v H' → Q' v H') : TAns K cs tl H Q' := fun E1 Q1 hE hQ => by
  refine h E1 Q1 (fun cls d H' z => hE cls d H' ?_) fun v H' z => hQ v H' fun p hp => w _ _ (z p hp)
  obtain ⟨h1, h2, j, C, nm, h3, h4, h5, P, h6, h7⟩ := z
  exact ⟨h1, h2, j, C, nm, h3, h4, h5, P, h6, fun v P' H'' n r => w _ _ (h7 v P' H'' n r)⟩
end Hap
namespace Hap
open PySem PySem.Spec PyProof.Rows L2
/-- the instance of a law's run: its tables, no function handed in, its world -/
abbrev tabc (w : World) (T : List NdefX.NTab) : TabC := ⟨T, noTab.F, noTab.G, noTab.V, w⟩
theorem walkDT {l : PySem.W.OpenLaw} {k : Nat} {q : Program} {loose : List Str} {XP : (Str → Option Value) → Heap → Prop} {YP : World → Heap → Prop} {d : DefRec} {K : Params → PySem.W.Frag} {x : Str} {sem : Fn} (hn : l.most = some 63) (hdf : d.params.defaults = [])
    (hk : k ≤ 60) (hY : ∀ (w : World) (h : Heap), YP w h → (K w.params).In h)
    (F : ∀ (w : World) (mg : Str → Option Value) (fa : Addr) (h : Heap), YP w h → (K w.params).In h → h.Ns mainGlobals mg → mg d.name = some (.ref fa) →
      ∃ (fd : FuncData) (ts : List (Addr × NdefX.NTab)), (∀ t ∈ ts, h.get? t.2.1 = some { cls := .none, data := .fields #[] } ∧ (K w.params).lookup t.2.1 = none ∧ PySem.W.CodeHd h t.1 t.2.1) ∧ (∀ (s : Shared) (u : Value), BindsTo s fd ⟨[u], []⟩ [(x, u)]) ∧
        ∀ base : Heap, (K w.params).In base → base.Ns mainGlobals mg → (∀ t ∈ ts, LamX.TabB base mg t.1 t.2.1) → FnOk l.prog w (K w.params) mg base (L2N.CX l.prog w) k fa fd [x] (@spTop (tabc w (ts.map (·.2))) (K w.params) (List.replicate 1 false) sem))
    (hm : ∀ ns : List Int, ns.length ≤ 63 → ∃ o, sem [.rol (ns.map D.int)] = .rt (.bl true) o) :
    PySem.W.WalkO q loose XP YP l.row.toRowW d [] (fun f vs => PySem.call f vs) := by
  refine LamX.walk_ofTs (n := 63) (k := k) (x := x) (CX := fun w => L2N.CX l.prog w) hn (by decide) hdf (Room.mono (k := 60) ⟨rfl, by decide, by decide⟩ hk) hY (fun w mg fa h Y KX G hmg => ?_) fun w H s e s' h => (letI : TabC := tabc w []; hCX0 h)
  obtain ⟨fd, ts, hT, hb, hF⟩ := F w mg fa h Y KX G hmg
  have each : ∀ {C : Addr × Addr → Prop}, (∀ t ∈ ts, C (t.1, t.2.1)) → ∀ p ∈ ts.map (fun t => (t.1, t.2.1)), C p := fun {C} z p hp => by
    obtain ⟨t, ht, rfl⟩ := List.mem_map.mp hp
    exact z t ht
  refine ⟨fd, ts.map fun t => (t.1, t.2.1), @spTop (tabc w (ts.map (·.2))) (K w.params) (List.replicate 1 false) sem, each (C := fun p => h.get? p.2 = _) fun t ht => (hT t ht).1, each (C := fun p => (K w.params).lookup p.2 = none) fun t ht => (hT t ht).2.1, each (C := fun p => PySem.W.CodeHd h p.1 p.2) fun t ht => (hT t ht).2.2, hb, fun H a ns hl _ ht hS => ?_,
    fun base i1 i2 tb => hF base i1 i2 fun t ht => tb _ (List.mem_map.mpr ⟨t, ht, rfl⟩)⟩
  intro RX
  refine @law_sp (tabc w (ts.map (·.2))) _ RX sem a ns H (fun p hp => ?_) hS (hm ns hl)
  obtain ⟨t, ht', rfl⟩ := List.mem_map.mp hp
  exact NdefX.TabN.nil (ht _ (List.mem_map.mpr ⟨t, ht', rfl⟩))
end Hap
namespace Hap
open PySem PySem.Spec PyProof.Rows L2
end Hap
namespace Hap
open PySem PySem.Spec PyProof.Rows L2
local instance : TabC := noTab
def refR (r : R D) (n : Str) (ρ : Ev) : R D := match r with
  | .exc x _ => if x.args.isEmpty = true then .ok (.bl (decide (x.cls = n))) ρ else .stk
  | _ => .stk
def ansR (r : R D) (ρ : Ev) : R D := match r with
  | .ok d _ => if newAll d = true then .ok (.tup [.str "told", d]) ρ else .stk
  | .exc x _ => if x.args.isEmpty = true then .ok (.tup [.str "refused", .str x.cls]) ρ else .stk
  | .stk => .stk
section
variable {g : Ev → R D} {ρ ρ' : Ev} {n c : Str} {d : D}
@[simp] theorem ap_refL : fRef g n ρ = refR (g (frzE ρ)) n ρ := by unfold fRef refR; rfl
@[simp] theorem refR_exc : refR (.exc ⟨c, []⟩ ρ') n ρ = .ok (.bl (decide (c = n))) ρ := (rfl)
@[simp] theorem ap_ansL : fAns g ρ = ansR (g (frzE ρ)) ρ := by unfold fAns ansR; rfl
@[simp] theorem ansR_exc : ansR (.exc ⟨c, []⟩ ρ') ρ = .ok (.tup [.str "refused", .str c]) ρ := (rfl)
@[simp] theorem ansR_ok : ansR (.ok d ρ') ρ = if newAll d = true then .ok (.tup [.str "told", d]) ρ else .stk := (rfl)
end
section
variable {d : D} {ds : List D}
@[simp] theorem nw_int {i} : newAll (.int i) = true := (rfl)
@[simp] theorem nw_bl {i} : newAll (.bl i) = true := (rfl)
@[simp] theorem nw_str {i} : newAll (.str i) = true := (rfl)
@[simp] theorem nw_non : newAll .non = true := (rfl)
@[simp] theorem nw_lst : newAll (.lst true ds) = newAlls ds := (by simp [newAll])
@[simp] theorem nw_tup : newAll (.tup ds) = newAlls ds := (by simp [newAll])
@[simp] theorem nws_nil : newAlls [] = true := (rfl)
@[simp] theorem nws_cons : newAlls (d :: ds) = (newAll d && newAlls ds) := (rfl)
end
end Hap
namespace Hap
open PySem PySem.Spec PyProof.Rows L2
variable [TabC]
def gRevL (d : D) : Option D := match d with
  | .lst _ xs => if isImms xs = true then some (.lst true xs.reverse) else none
  | _ => none
@[simp] theorem revL_l {o : Bool} {xs : List D} : gRevL (.lst o xs) = if isImms xs = true then some (.lst true xs.reverse) else none := (rfl)
end Hap
namespace Hap
open PySem PySem.Spec PyProof.Rows L2
variable [TabC]
section
variable {K : PySem.W.Frag} {P : AS} {H : Hp}
def appP : List Int → D → D → Option D
  | [], e, d => (match d with
    | .lst true xs => if xs.length < sizeLine then some (.lst true (xs ++ [e])) else none
    | _ => none)
  | j :: js, e, d => (match d with
    | .tup ds => (ixN ds.length j).bind fun k => (ds[k]?).bind fun d0 => (appP js e d0).map fun d' => .tup (ds.set k d')
    | .lst true ds => (ixN ds.length j).bind fun k => (ds[k]?).bind fun d0 => (appP js e d0).map fun d' => .lst true (ds.set k d')
    | _ => none)
end
def fAppP (i : Nat) (js : List Int) (n : Int) : Ev → RS := fun ρ => match ρ[i]? with
  | some (some d) => (match appP js (.int n) d with
    | some d2 => .nx (ρ.set i (some d2))
    | none => .stk)
  | _ => .stk
def setQ (o : Option D) (i : Nat) (ρ : Ev) : RS := match o with
  | some d2 => .nx (ρ.set i (some d2))
  | none => .stk
def setP (js : List Int) (n : Int) (o : Option (Option D)) (i : Nat) (ρ : Ev) : RS := match o with
  | some (some d) => setQ (appP js (.int n) d) i ρ
  | _ => .stk
section
variable {ρ : Ev} {i : Nat} {js : List Int} {n : Int} {d : D}
omit [TabC]
@[simp] theorem ap_appP : fAppP i js n ρ = setP js n ρ[i]? i ρ := (rfl)
@[simp] theorem setP_s : setP js n (some (some d)) i ρ = setQ (appP js (.int n) d) i ρ := (rfl)
@[simp] theorem setQ_s : setQ (some d) i ρ = .nx (ρ.set i (some d)) := (rfl)
end
def gSplit (d : D) (ds : List D) : Option D := match d with
  | .str a => (match ds with
    | [.str b] => if (b.length == 0) = false ∧ a.length + 2 ≤ sizeLine then some (.lst true ((Txt.split a b).map D.str)) else none
    | _ => none)
  | _ => none
section
omit [TabC]
@[simp] theorem split_s {a b : Str} : gSplit (.str a) [.str b] = if (b.length == 0) = false ∧ a.length + 2 ≤ sizeLine then some (.lst true ((Txt.split a b).map D.str)) else none := (rfl)
end
end Hap
namespace Hap
open PySem PySem.Spec PyProof.Rows L2
variable [TabC]
/-- the keys as data -/
def keyD : Key → D
  | .inl n => .int n
  | .inr x => .str x
def iKey (i : Nat) : Ev → R (List D) := fun ρ => match ρ[i]? with
  | some (some (.dct false ks _)) => .ok (ks.map keyD) ρ
  | _ => .stk
section
variable {ρ : Ev} {i : Nat}
def keyR (o : Option (Option D)) (ρ : Ev) : R (List D) := match o with
  | some (some (.dct false ks _)) => .ok (ks.map keyD) ρ
  | _ => .stk
@[simp] theorem ap_key : iKey i ρ = keyR ρ[i]? ρ := by unfold iKey keyR; rfl
@[simp] theorem keyR_s {ks : List Key} {xs : List D} : keyR (some (some (.dct false ks xs))) ρ = .ok (ks.map keyD) ρ := (rfl)
end
end Hap
namespace ZN
open PySem PySem.Spec PyProof.Rows L2
abbrev ZipF (h : Heap) (z TI TO : Addr) (f0 : Value) (f : Bool) : Prop :=
  h.get? z = some { cls := .type "zip", dict := none, data := .fields #[f0, .bool f, .bool false, .ref TI, .ref TO], slots := #[] }
/-- a zip between two turns -/
def Zf (h : Heap) (z TI TO : Addr) : Prop := ∃ f0 f, ZipF h z TI TO f0 f ∧ (f0 = .none ∨ ∃ T : Nat, f0 = rawInt (T : Int))
end ZN
namespace ZN
open PySem PySem.Spec PyProof.Rows L2
/-- a zip of two lists, k pairs on -/
structure Zst (h : Heap) (z TI TO i1 i2 l1 l2 : Addr) (k : Nat) : Prop where
  zf : Zf h z TI TO
  ti : IsPair h TI (.ref i1) (.ref i2)
  to : ∃ a b, IsPair h TO a b
  it1 : h.IsListIter i1 l1 k
  it2 : h.IsListIter i2 l2 k
theorem Zst.keep {h h' : Heap} {z TI TO i1 i2 l1 l2 : Addr} {k : Nat} (s : Zst h z TI TO i1 i2 l1 l2 k) (hk : ∀ b ∈ [z, TI, TO, i1, i2], ∀ o, h.get? b = some o → h'.get? b = some o) : Zst h' z TI TO i1 i2 l1 l2 k where
  zf := let ⟨f0, f, e, r⟩ := s.zf; ⟨f0, f, hk z (by simp) _ e, r⟩
  ti := hk TI (by simp) _ s.ti
  to := let ⟨a, b, e⟩ := s.to; ⟨a, b, hk TO (by simp) _ e⟩
  it1 := s.it1.at fun o q => hk i1 (by simp) o q
  it2 := s.it2.at fun o q => hk i2 (by simp) o q
end ZN
namespace Hap
open PySem PySem.Spec PyProof.Rows L2
end Hap
namespace M
open PySem PySem.Spec PyProof.Rows L2 Hap
local instance : TabC := noTab
def b__law_bag : Ev → RS :=
  (fSeq (fIf (fTv (vOp2 gGe (vOpN gAbs (vCons (vVar 0) vNil)) (vOp2 gPow (vK (.int 10)) (vK (.int 18)))))
    (fRet (fLst (fCons (fI (vOpN gAbs (vCons (vVar 0) vNil))) (fCons (fK (.int 0)) fNil))))
    fNext)
    (fRet (fLst (fCons (fI (vOp2 gMod (vVar 0) (vK (.int 2147483647)))) (fCons (fK (.int 1)) fNil)))))
def m__law_bag : Fn := semOf (List.replicate 1 false) 1 b__law_bag
def b__law_take : Ev → RS :=
  (fSeq (fIf (fTv (vOp2 gEq (vOp2 gIx (vVar 0) (vK (.int 1))) (vK (.int 0))))
    (fSeq (fAsg (fI (vOp2 gMod (vOp2 gIx (vVar 0) (vK (.int 0))) (vVar 1))) (gN 2))
    (fSeq (fSetL 0 (fI (vOp2 gFdiv (vOp2 gIx (vVar 0) (vK (.int 0))) (vVar 1))) (fK (.int 0)))
    (fRet (fMv 2))))
    fNext)
    (fSeq (fSetL 0 (fI (vOp2 gMod (vOp2 gAdd (vOp2 gAdd (vOp2 gMul (vOp2 gIx (vVar 0) (vK (.int 0))) (vK (.int 48271))) (vOp2 gMul (vOp2 gMul (vK (.int 7919)) (vOp2 gIx (vVar 0) (vK (.int 1)))) (vOp2 gIx (vVar 0) (vK (.int 1))))) (vK (.int 17))) (vK (.int 2147483647)))) (fK (.int 0)))
    (fSeq (fSetL 0 (fI (vOp2 gAdd (vOp2 gIx (vVar 0) (vK (.int 1))) (vK (.int 1)))) (fK (.int 1)))
    (fRet (fI (vOp2 gMod (vOp2 gFdiv (vOp2 gMod (vOp2 gMul (vOp2 gIx (vVar 0) (vK (.int 0))) (vK (.int 69621))) (vK (.int 2147483629))) (vK (.int 5))) (vVar 1)))))))
def m__law_take : Fn := semOf (true :: List.replicate 1 false) 3 b__law_take
def l__law_house_1 : Ev → RS :=
  (fSeq (fAsg (fOp2 gAdd (fVar 5) (fCallIO 0 2 m__law_take (fCons (fI (vOp2 gSub (vOp2 gAdd (vOp2 gSub (vK (.int 27)) (vVar 2)) (vVar 6)) (vVar 5))) fNil))) (gN 5))
    (fSeq (fAsg (fOp2 gAdd (fK (.int 1)) (fCallIO 0 2 m__law_take (fCons (fI (vOp2 gSub (vOp2 gShl (vK (.int 1)) (vVar 1)) (vK (.int 1)))) fNil))) (gN 7))
    (fSeq (fIf (fTv (vOp2 gEq (vVar 3) (vK (.int 1))))
    (fAsg (fOp2 gBor (fOp2 gShl (fK (.int 1)) (fCallIO 0 2 m__law_take (fCons (fVar 1) fNil))) (fOp2 gShl (fK (.int 1)) (fCallIO 0 2 m__law_take (fCons (fVar 1) fNil)))) (gN 7))
    fNext)
    (fSeq (fAppend 4 (fCons (fTup (fCons (fI (vOp2 gIx (vK (.str "abcdefghijklmnopqrstuvwxyz")) (vVar 5))) (fCons (fLc (fItN rng1 (fCons (fVar 1) fNil)) (gN 8) (fTv (vOp2 gEq (vOp2 gBand (vOp2 gShr (vVar 7) (vVar 8)) (vK (.int 1))) (vK (.int 1)))) (fVar 8) [8]) fNil))) fNil))
    (fAsg (fI (vOp2 gAdd (vVar 5) (vK (.int 1)))) (gN 5))))))
def b__law_house : Ev → RS :=
  (fSeq (fAsg (fOp2 gAdd (fK (.int 2)) (fCallIO 0 2 m__law_take (fCons (fK (.int 3)) fNil))) (gN 1))
    (fSeq (fAsg (fOp2 gAdd (fK (.int 1)) (fCallIO 0 2 m__law_take (fCons (fK (.int 6)) fNil))) (gN 2))
    (fSeq (fAsg (fCallIO 0 2 m__law_take (fCons (fK (.int 2)) fNil)) (gN 3))
    (fSeq (fAsg (fLst fNil) (gN 4))
    (fSeq (fAsg (fK (.int 0)) (gN 5))
    (fSeq (fFor (fItN rng1 (fCons (fVar 2) fNil)) (gN 6) l__law_house_1)
    (fRet (fTup (fConsL 1 (fConsL 4 fNil))))))))))
def m__law_house : Fn := semOf (true :: List.replicate 0 false) 9 b__law_house
def l__law_row_1 : Ev → RS :=
  (fAsg (fOp2 gAdd (fVar 4) (fOp2 gIxI (fOp2 gIxI (fI (vOp2 gIx (vVar 1) (vK (.int 1)))) (fCallIO 0 2 m__law_take (fCons (fI (vOpN gLen (vCons (vOp2 gIx (vVar 1) (vK (.int 1))) vNil))) fNil))) (fK (.int 0)))) (gN 4))
def b__law_row : Ev → RS :=
  (fSeq (fAsg (fCallIO 0 2 m__law_take (fCons (fI (vOp2 gAdd (vVar 2) (vK (.int 1)))) fNil)) (gN 3))
    (fSeq (fIf (fTb (fOp2V gEq (fCallIO 0 2 m__law_take (fCons (fK (.int 8)) fNil)) (vK (.int 1))))
    (fAsg (fCallIO 0 2 m__law_take (fCons (fK (.int 41)) fNil)) (gN 3))
    fNext)
    (fSeq (fAsg (fK (.str "")) (gN 4))
    (fSeq (fFor (fItN rng1 (fCons (fVar 3) fNil)) (gN 5) l__law_row_1)
    (fRet (fMv 4))))))
def m__law_row : Fn := semOf (true :: List.replicate 2 false) 6 b__law_row
def b__law_drawn : Ev → RS :=
  (fSeq (fAsg (fCall 1 m__law_bag (fCons (fVar 0) fNil)) (gN 2))
    (fSeq (fAsg (fCallIO 2 1 m__law_house fNil) (gN 3))
    (fRet (fTup (fConsL 2 (fConsL 3 (fCons (fCallIO 2 3 m__law_row (fCons (fVar 3) (fCons (fVar 1) fNil))) fNil)))))))
def m__law_drawn : Fn := semOf (List.replicate 2 false) 4 b__law_drawn
def b_is_whole : Ev → RS :=
  (fRet (fAndD (fI (vOpN gIsi (vCons (vVar 0) (vCons (vK (.gv (.ty "int"))) vNil)))) (fNotD (fI (vOpN gIsi (vCons (vVar 0) (vCons (vK (.gv (.ty "bool"))) vNil)))))))
def m_is_whole : Fn := semOf (List.replicate 1 false) 1 b_is_whole
def l_is_rising_1 : Ev → RS :=
  (fSeq (fIf (fOr (fNot (fTb (fCall 1 m_is_whole (fCons (fVar 3) fNil)))) (fNot (fTb (fChain gLt gLt (fVar 2) (fVar 3) (fVar 1)))))
    (fRet (fK (.bl false)))
    fNext)
    (fAsg (fVar 3) (gN 2)))
def b_is_rising : Ev → RS :=
  (fSeq (fIf (fNot (fTv (vOpN gIsi (vCons (vVar 0) (vCons (vK (.gv (.ty "list"))) vNil)))))
    (fRet (fK (.bl false)))
    fNext)
    (fSeq (fAsg (fI (vOp1 gNeg (vK (.int 1)))) (gN 2))
    (fSeq (fFor (fIt itemsL (fVar 0)) (gN 3) l_is_rising_1)
    (fRet (fK (.bl true))))))
def m_is_rising : Fn := semOf (List.replicate 2 false) 4 b_is_rising
def b_is_sign : Ev → RS :=
  (fRet (fAndD (fI (vOpN gIsi (vCons (vVar 0) (vCons (vK (.gv (.ty "str"))) vNil)))) (fAndD (fI (vOp2 gEq (vOpN gLen (vCons (vVar 0) vNil)) (vK (.int 1)))) (fI (vOp2 gIn (vVar 0) (vK (.str "abcdefghijklmnopqrstuvwxyz")))))))
def m_is_sign : Fn := semOf (List.replicate 1 false) 1 b_is_sign
def b_is_entry : Ev → RS :=
  (fSeq (fIf (fOr (fNot (fTv (vOpN gIsi (vCons (vVar 0) (vCons (vK (.gv (.ty "tuple"))) vNil))))) (fOr (fTv (vOp2 gNe (vOpN gLen (vCons (vVar 0) vNil)) (vK (.int 2)))) (fNot (fTb (fCall 1 m_is_sign (fCons (fI (vOp2 gIx (vVar 0) (vK (.int 0)))) fNil))))))
    (fRet (fK (.bl false)))
    fNext)
    (fRet (fAndD (fCall 2 m_is_rising (fCons (fI (vOp2 gIx (vVar 0) (vK (.int 1)))) (fCons (fVar 1) fNil))) (fI (vOp2 gGt (vOpN gLen (vCons (vOp2 gIx (vVar 0) (vK (.int 1))) vNil)) (vK (.int 0)))))))
def m_is_entry : Fn := semOf (List.replicate 2 false) 2 b_is_entry
def l_is_house_1 : Ev → RS :=
  (fSeq (fIf (fOr (fNot (fTb (fCall 2 m_is_entry (fCons (fVar 4) (fCons (fVar 1) fNil))))) (fNot (fTv (vOp2 gLt (vVar 3) (vOp2 gIx (vVar 4) (vK (.int 0)))))))
    (fRet (fK (.bl false)))
    fNext)
    (fAsg (fI (vOp2 gIx (vVar 4) (vK (.int 0)))) (gN 3)))
def b_is_house : Ev → RS :=
  (fSeq (fIf (fOr (fNot (fTv (vOpN gIsi (vCons (vVar 0) (vCons (vK (.gv (.ty "tuple"))) vNil))))) (fTv (vOp2 gNe (vOpN gLen (vCons (vVar 0) vNil)) (vK (.int 2)))))
    (fRet (fK (.bl false)))
    fNext)
    (fSeq (fAsg (fVar 0) (gT 2 (gsC (gN 1) (gsC (gN 2) gsN))))
    (fSeq (fIf (fOr (fNot (fTb (fCall 1 m_is_whole (fCons (fVar 1) fNil)))) (fNot (fTb (fChain gLe gLe (fK (.int 2)) (fVar 1) (fK (.int 4))))))
    (fRet (fK (.bl false)))
    fNext)
    (fSeq (fIf (fOr (fNot (fTv (vOpN gIsi (vCons (vVar 2) (vCons (vK (.gv (.ty "list"))) vNil))))) (fNot (fTb (fChain gLe gLe (fK (.int 1)) (fI (vOpN gLen (vCons (vVar 2) vNil))) (fK (.int 6))))))
    (fRet (fK (.bl false)))
    fNext)
    (fSeq (fAsg (fK (.str "")) (gN 3))
    (fSeq (fFor (fIt itemsL (fVar 2)) (gN 4) l_is_house_1)
    (fRet (fK (.bl true)))))))))
def m_is_house : Fn := semOf (List.replicate 1 false) 5 b_is_house
def b_look_house : Ev → RS :=
  (fIf (fNot (fTb (fCall 1 m_is_house (fCons (fVar 0) fNil))))
    (fRaise "NoHouse")
    fNext)
def m_look_house : Fn := semOf (List.replicate 1 false) 1 b_look_house
def b__law_cell : Ev → RS :=
  (fSeq (fIf (fTv (vOp2 gLt (vVar 1) (vOpN gLen (vCons (vVar 0) vNil))))
    (fRet (fI (vOp2 gIx (vVar 0) (vVar 1))))
    fNext)
    (fRet (fK (.int 0))))
def m__law_cell : Fn := semOf (List.replicate 2 false) 2 b__law_cell
def Bag (n : Nat) (g : D) : Prop := ∃ a b : Int, g = .lst true [.int a, .int b] ∧ 0 ≤ b ∧ b ≤ n
theorem Bag.mono {n m : Nat} {g : D} (h : Bag n g) (l : n ≤ m) : Bag m g := by
  obtain ⟨a, b, e, h0, h1⟩ := h
  exact ⟨a, b, e, h0, by omega⟩
theorem take_spec {n : Nat} {g : D} {m : Int} (h : Bag n g) (hn : n < 2 ^ 60) (h0 : 0 < m) (h1 : m < 2 ^ 40) : ∃ (r : Nat) (g' : D), (r : Int) < m ∧ Bag (n + 1) g' ∧ m__law_take [g, .int m] = .rt (.int r) [some g', none] := by
  obtain ⟨a, b, rfl, hb0, hb1⟩ := h
  have nz : m ≠ 0 := by omega
  by_cases e : b = 0
  · subst e
    have cd : CDivX a m := ⟨nz, by omega⟩
    have hr0 : 0 ≤ Int.fmod a m := Int.fmod_nonneg_of_pos a h0
    have hr1 : Int.fmod a m < m := Int.fmod_lt_of_pos a h0
    refine ⟨(Int.fmod a m).toNat, .lst true [.int (Int.fdiv a m), .int 0], by omega, ⟨_, 0, rfl, by omega, by omega⟩, ?_⟩
    unfold m__law_take
    rw [semOf_ap]
    unfold b__law_take
    simp [nz, cd, setS, ixN, Int.toNat_of_nonneg hr0]
  · have c1 : CMul a 48271 := .inr ⟨by decide, by decide⟩
    have c2 : CMul 7919 b := .inl ⟨by decide, by decide⟩
    have c3 : CMul (7919 * b) b := .inr ⟨by omega, by omega⟩
    have c4 : ∀ x, CMul x 69621 := fun x => .inr ⟨by decide, by decide⟩
    have c5 : ∀ x, CDivX x 5 := fun x => ⟨by decide, by decide⟩
    let x := Int.fmod (a * 48271 + 7919 * b * b + 17) 2147483647
    let y := Int.fdiv (Int.fmod (x * 69621) 2147483629) 5
    have hr0 : 0 ≤ Int.fmod y m := Int.fmod_nonneg_of_pos y h0
    have hr1 : Int.fmod y m < m := Int.fmod_lt_of_pos y h0
    refine ⟨(Int.fmod y m).toNat, .lst true [.int x, .int (b + 1)], by omega, ⟨_, b + 1, rfl, by omega, by omega⟩, ?_⟩
    unfold m__law_take
    rw [semOf_ap]
    unfold b__law_take
    simp [nz, e, c1, c2, c3, c4, c5, setS, ixN, Int.toNat_of_nonneg hr0, x, y]
theorem bag_spec (c : Int) : ∃ g, Bag 1 g ∧ m__law_bag [.int c] = .rt g [none] := by
  have c1 : CPow 10 18 := ⟨by decide, by decide, by decide⟩
  by_cases h : (10 : Int) ^ 18 ≤ (if c < 0 then -c else c)
  · refine ⟨.lst true [.int (if c < 0 then -c else c), .int 0], ⟨_, 0, rfl, by omega, by omega⟩, ?_⟩
    unfold m__law_bag
    rw [semOf_ap]
    unfold b__law_bag
    have h' : (1000000000000000000 : Int) ≤ (if c < 0 then -c else c) := h
    simp [c1, sizeLine]
    rw [if_pos h']
    simp
  · refine ⟨.lst true [.int (Int.fmod c 2147483647), .int 1], ⟨_, 1, rfl, by omega, by omega⟩, ?_⟩
    unfold m__law_bag
    rw [semOf_ap]
    unfold b__law_bag
    have h' : ¬ (1000000000000000000 : Int) ≤ (if c < 0 then -c else c) := h
    simp [c1, sizeLine]
    rw [if_neg h']
    simp [sizeLine]
def sg (l : Nat) : Str := ⟨#[97 + l]⟩
def natD (x : Nat) : D := .int (x : Int)
def ownD (o : Bool) (ow : List Nat) : D := .lst o (ow.map natD)
def entD (o : Bool) (e : Nat × List Nat) : D := .tup [.str (sg e.1), ownD o e.2]
def houD (o : Bool) (h : Nat) (L : List (Nat × List Nat)) : D := .tup [.int h, .lst o (L.map (entD o))]
structure Own (h : Nat) (ow : List Nat) : Prop where
  ne : ow ≠ []
  rise : ow.Pairwise (· < ·)
  lt : ∀ x ∈ ow, x < h
structure House (h : Nat) (L : List (Nat × List Nat)) : Prop where
  h2 : 2 ≤ h
  h4 : h ≤ 4
  l1 : 1 ≤ L.length
  l6 : L.length ≤ 6
  rise : L.Pairwise fun e f => e.1 < f.1
  lt : ∀ e ∈ L, e.1 < 26
  own : ∀ e ∈ L, Own h e.2
@[simp] theorem frz_own {o ow} : frz (ownD o ow) = ownD false ow := by
  unfold ownD; rw [frz_lst, frzs_mapf (g := natD) fun _ _ => rfl]
@[simp] theorem frz_ent {o e} : frz (entD o e) = entD false e := by
  unfold entD; simp
@[simp] theorem frz_hou {o h L} : frz (houD o h L) = houD false h L := by
  unfold houD; simp [frzs_mapf (f := entD o) (g := entD false) fun _ _ => frz_ent]
@[simp] theorem imm_own {ow} : isImm (ownD false ow) = true := by
  unfold ownD; simp; exact imms_map fun _ _ => rfl
@[simp] theorem imm_ent {e} : isImm (entD false e) = true := by unfold entD; simp
@[simp] theorem imm_hou {h L} : isImm (houD false h L) = true := by
  unfold houD; simp; exact imms_map fun _ _ => imm_ent
@[simp] theorem imm_ownT {ow} : isImm (ownD true ow) = false := by unfold ownD; rfl
@[simp] theorem imm_houT {h L} : isImm (houD true h L) = false := by unfold houD; simp
def bitsL (h bits : Nat) : List Nat := (List.range h).filter fun j => bits.testBit j
theorem own_bits {h bits : Nat} (h0 : bits ≠ 0) (h1 : bits < 2 ^ h) : Own h (bitsL h bits) := by
  refine ⟨fun e => ?_, (List.pairwise_lt_range).filter _, fun x hx => by
    unfold bitsL at hx; rw [List.mem_filter, List.mem_range] at hx; exact hx.1⟩
  obtain ⟨i, hi⟩ := Nat.exists_testBit_of_ne_zero h0
  have hih : i < h := by
    refine Nat.lt_of_not_le fun hle => ?_
    have : bits < 2 ^ i := Nat.lt_of_lt_of_le h1 (Nat.pow_le_pow_right (by omega) hle)
    rw [Nat.testBit_lt_two_pow this] at hi
    cases hi
  have : i ∈ bitsL h bits := by unfold bitsL; rw [List.mem_filter, List.mem_range]; exact ⟨hih, hi⟩
  rw [e] at this
  exact absurd this (by simp)
theorem abc_eq : (Str.ofString "abcdefghijklmnopqrstuvwxyz").cps.toList = (List.range 26).map (97 + ·) := by decide +kernel
theorem abc_len : (Str.ofString "abcdefghijklmnopqrstuvwxyz").length ≤ sizeLine := by decide +kernel
theorem abc_ix {i : Nat} (h : i < 26) : gIx (.str (Str.ofString "abcdefghijklmnopqrstuvwxyz")) (.int (i : Int)) = some (.str (sg i)) := by
  show (if (Str.ofString "abcdefghijklmnopqrstuvwxyz").length ≤ sizeLine then (atI (Str.ofString "abcdefghijklmnopqrstuvwxyz").cps.toList (i : Int)).map fun c => D.str ⟨#[c]⟩ else none) = _
  rw [if_pos abc_len, at_nat, abc_eq, List.getElem?_map, List.getElem?_range h]
  rfl
theorem house_lc {g v2 v3 v4 v5 v6 : Option D} {h bits : Nat} (hh : h ≤ 4) :
    fLc (fItN rng1 (fCons (fVar 1) fNil)) (gN 8) (fTv (vOp2 gEq (vOp2 gBand (vOp2 gShr (vVar 7) (vVar 8)) (vK (.int 1))) (vK (.int 1)))) (fVar 8) [8] [g, some (.int (h : Int)), v2, v3, v4, v5, v6, some (.int (bits : Int)), none]
      = .ok (ownD true (bitsL h bits)) [g, some (.int (h : Int)), v2, v3, v4, v5, v6, some (.int (bits : Int)), none] := by
  unfold ownD bitsL
  refine lc_map (g := fun i => .int ((i : Nat) : Int)) (p := fun j => bits.testBit j) ?_ ?_ ?_ ?_
  · simp [rng1_n (n := h) (by omega)]
  · simp
  · rw [List.length_range]; unfold sizeLine; omega
  · intro j hj
    let ρ : Ev := [g, some (.int (h : Int)), v2, v3, v4, v5, v6, some (.int (bits : Int)), some (.int (j : Int))]
    refine ⟨ρ, rfl, ρ, ?_, fun _ => ⟨ρ, rfl, rfl⟩, fun _ => rfl⟩
    have e1 : (bits : Int) / 2 ^ j = ((bits >>> j : Nat) : Int) := by rw [Nat.shiftRight_eq_div_pow]; norm_cast
    have e2 : Builtin.bitAnd ((bits >>> j : Nat) : Int) 1 = (((bits >>> j) &&& 1 : Nat) : Int) := band_nn _ 1
    simp [ρ, e1, e2, -Nat.and_one_is_mod]
    rw [Bool.eq_iff_iff]
    simp only [decide_eq_true_eq]
    exact test_1 bits j
theorem bor_pow (a b : Nat) : Builtin.bitOr ((2 : Int) ^ a) (2 ^ b) = ((2 ^ a ||| 2 ^ b : Nat) : Int) := by
  have := bor_nn (2 ^ a) (2 ^ b)
  rw [← this]; congr 1 <;> norm_cast
theorem cpow1 {j : Nat} (h : j < 100) : CPow 1 (j : Int) := cpow_small 1 j (by omega) (by decide)
theorem pow_h {h : Nat} (h2 : 2 ≤ h) (h4 : h ≤ 4) : (4 : Int) ≤ 2 ^ h ∧ (2 : Int) ^ h ≤ 16 := by
  have : h = 2 ∨ h = 3 ∨ h = 4 := by omega
  rcases this with rfl | rfl | rfl <;> decide
/-- the state of _law_house's loop -/
structure HLoop (n0 h many few k : Nat) (ρ : Ev) : Prop where
  ex : ∃ (g : D) (at_ : Nat) (L : List (Nat × List Nat)) (v6 v7 : Option D), ρ = [some g, some (.int (h : Int)), some (.int (many : Int)), some (.int (few : Int)), some (.lst true (L.map (entD true))), some (.int (at_ : Int)), v6, v7, none] ∧
    Bag (n0 + 4 * k) g ∧ L.length = k ∧ at_ + many ≤ 26 + k ∧ (L.Pairwise fun e f => e.1 < f.1) ∧ ∀ e ∈ L, e.1 < at_ ∧ Own h e.2
def house_tail : Ev → RS := (fSeq (fAppend 4 (fCons (fTup (fCons (fI (vOp2 gIx (vK (.str "abcdefghijklmnopqrstuvwxyz")) (vVar 5))) (fCons (fLc (fItN rng1 (fCons (fVar 1) fNil)) (gN 8) (fTv (vOp2 gEq (vOp2 gBand (vOp2 gShr (vVar 7) (vVar 8)) (vK (.int 1))) (vK (.int 1)))) (fVar 8) [8]) fNil))) fNil))
    (fAsg (fI (vOp2 gAdd (vVar 5) (vK (.int 1)))) (gN 5)))
theorem house_body : l__law_house_1 = fSeq (fAsg (fOp2 gAdd (fVar 5) (fCallIO 0 2 m__law_take (fCons (fI (vOp2 gSub (vOp2 gAdd (vOp2 gSub (vK (.int 27)) (vVar 2)) (vVar 6)) (vVar 5))) fNil))) (gN 5))
    (fSeq (fAsg (fOp2 gAdd (fK (.int 1)) (fCallIO 0 2 m__law_take (fCons (fI (vOp2 gSub (vOp2 gShl (vK (.int 1)) (vVar 1)) (vK (.int 1)))) fNil))) (gN 7))
    (fSeq (fIf (fTv (vOp2 gEq (vVar 3) (vK (.int 1))))
    (fAsg (fOp2 gBor (fOp2 gShl (fK (.int 1)) (fCallIO 0 2 m__law_take (fCons (fVar 1) fNil))) (fOp2 gShl (fK (.int 1)) (fCallIO 0 2 m__law_take (fCons (fVar 1) fNil)))) (gN 7))
    fNext) house_tail)) := rfl
theorem house_turn {n0 h many few k : Nat} {ρ : Ev} (h2 : 2 ≤ h) (h4 : h ≤ 4) (hm : many ≤ 6) (hn0 : n0 < 2 ^ 59) (hk : k < many) (I : HLoop n0 h many few k ρ) : ∃ ρ', stepS (gN 6) l__law_house_1 (.int (k : Int)) ρ = .nx ρ' ∧ HLoop n0 h many few (k + 1) ρ' := by
  obtain ⟨g, at_, L, v6, v7, rfl, hb, hl, ha, hp, ho⟩ := I.ex
  obtain ⟨r1, g1, hr1, hb1, t1⟩ := take_spec (m := 27 - (many : Int) + (k : Int) - (at_ : Int)) hb (by omega) (by omega) (by omega)
  obtain ⟨p1, p2⟩ := pow_h h2 h4
  obtain ⟨r2, g2, hr2, hb2, t2⟩ := take_spec (m := (2 : Int) ^ h - 1) hb1 (by omega) (by omega) (by omega)
  have hat : at_ + r1 < 26 := by omega
  have cp := cpow1 (j := h) (by omega)
  obtain ⟨A, hA⟩ : ∃ A, A = at_ + r1 := ⟨_, rfl⟩
  have hsum : (at_ : Int) + (r1 : Int) = (A : Int) := by omega
  rw [← hA] at hat
  -- the part behind the bits
  have tail : ∀ (g3 : D) (bits : Nat), Bag (n0 + 4 * (k + 1)) g3 → bits ≠ 0 → bits < 2 ^ h →
      ∃ ρ', house_tail [some g3, some (.int (h : Int)), some (.int (many : Int)), some (.int (few : Int)), some (.lst true (L.map (entD true))), some (.int ((A : Nat) : Int)), some (.int (k : Int)), some (.int (bits : Int)), none] = .nx ρ' ∧ HLoop n0 h many few (k + 1) ρ' := by
    intro g3 bits hb3 b0 b1
    refine ⟨[some g3, some (.int (h : Int)), some (.int (many : Int)), some (.int (few : Int)), some (.lst true ((L ++ [(A, bitsL h bits)]).map (entD true))), some (.int ((A + 1 : Nat) : Int)), some (.int (k : Int)), some (.int (bits : Int)), none], ?_, ⟨g3, A + 1, L ++ [(A, bitsL h bits)], _, _, rfl, hb3, by simp [hl], by omega, ?_, ?_⟩⟩
    · unfold house_tail
      have hs : L.length < sizeLine := by unfold sizeLine; omega
      have hs2 : 2 ≤ sizeLine := by decide
      have i5 := abc_ix hat
      simp only [ap_seq, ap_append, ap_cons, ap_tup, ap_I, ap_v2, ap_vk, ap_vvar, List.getElem?_cons_succ, List.getElem?_cons_zero, varV_s, isLs_s, Option.bind_some, i5, immR_s, imm_str, if_true, bind_ok, house_lc h4, ap_nil, rsof_ok, one1_s, appS_s, List.length_map, hs, hs2, List.length_cons, List.length_nil, seq_nx, ap_asg, add_ii, imm_int, tgR_s, ap_gN, List.set_cons_succ, List.set_cons_zero, List.map_append, List.map_cons, List.map_nil]
      rfl
    · rw [List.pairwise_append]
      refine ⟨hp, by simp, fun e he f hf => ?_⟩
      rw [List.mem_singleton] at hf; subst hf
      exact Nat.lt_of_lt_of_le (ho e he).1 (by omega)
    · intro e he
      rcases List.mem_append.mp he with he | he
      · exact ⟨by have := (ho e he).1; omega, (ho e he).2⟩
      · rw [List.mem_singleton] at he; subst he
        exact ⟨by show A < _; omega, own_bits b0 b1⟩
  obtain ⟨B, hB⟩ : ∃ B, B = 1 + r2 := ⟨_, rfl⟩
  have e2 : (1 : Int) + (r2 : Int) = (B : Int) := by omega
  by_cases hf : few = 1
  · subst hf
    obtain ⟨r3, g3, hr3, hb3, t3⟩ := take_spec (m := (h : Int)) hb2 (by omega) (by omega) (by omega)
    obtain ⟨r4, g4, hr4, hb4, t4⟩ := take_spec (m := (h : Int)) hb3 (by omega) (by omega) (by omega)
    obtain ⟨C, hC⟩ : ∃ C, C = 2 ^ r3 ||| 2 ^ r4 := ⟨_, rfl⟩
    have hbor := bor_pow r3 r4
    rw [← hC] at hbor
    have hbits : 2 ^ r3 ||| 2 ^ r4 < 2 ^ h := Nat.or_lt_two_pow (Nat.pow_lt_pow_right (by omega) (by omega)) (Nat.pow_lt_pow_right (by omega) (by omega))
    have hnz : 2 ^ r3 ||| 2 ^ r4 ≠ 0 := by
      intro e
      have h1 : (2 ^ r3 ||| 2 ^ r4).testBit r3 = true := by rw [Nat.testBit_or, Nat.testBit_two_pow_self]; rfl
      rw [e] at h1; simp at h1
    obtain ⟨ρ', e, I'⟩ := tail g4 C (hb4.mono (by omega)) (hC ▸ hnz) (hC ▸ hbits)
    refine ⟨ρ', ?_, I'⟩
    rw [ap_step, ← e]
    rw [house_body]
    simp [-ap_append, -ap_lst, t1, t2, t3, t4, cp, cpow1 (j := r3) (by omega), cpow1 (j := r4) (by omega), hsum, e2, hbor]
  · have hbits : B < 2 ^ h := by
      have : ((2 : Nat) ^ h : Int) = 2 ^ h := by norm_cast
      have : ((2 ^ h : Nat) : Int) = 2 ^ h := by norm_cast
      omega
    obtain ⟨ρ', e, I'⟩ := tail g2 B (hb2.mono (by omega)) (by omega) hbits
    refine ⟨ρ', ?_, I'⟩
    have hf' : ¬ (few : Int) = 1 := by omega
    rw [ap_step, ← e]
    rw [house_body]
    simp [-ap_append, -ap_lst, t1, t2, cp, hsum, e2, hf']
section
variable {o : Bool} {h : Nat} {L : List (Nat × List Nat)} {e : Nat × List Nat} {ow : List Nat}
@[simp] theorem hou_ix0 : gIx (houD o h L) (.int 0) = some (.int (h : Int)) := by unfold houD; simp
@[simp] theorem hou_ix1 : gIx (houD o h L) (.int 1) = some (.lst o (L.map (entD o))) := by unfold houD; simp
@[simp] theorem ent_ix0 : gIx (entD o e) (.int 0) = some (.str (sg e.1)) := by unfold entD; simp
@[simp] theorem ent_ix1 : gIx (entD o e) (.int 1) = some (ownD o e.2) := by unfold entD; simp
@[simp] theorem frzs_ents : frzs (L.map (entD o)) = L.map (entD false) := frzs_mapf fun _ _ => frz_ent
@[simp] theorem imms_ents : isImms (L.map (entD false)) = true := imms_map fun _ _ => imm_ent
@[simp] theorem frzs_nats : frzs (ow.map natD) = ow.map natD := frzs_mapf fun _ _ => rfl
@[simp] theorem imms_nats : isImms (ow.map natD) = true := imms_map fun _ _ => rfl
end
@[simp] theorem fLst_nil {ρ : Ev} : fLst fNil ρ = .ok (.lst true []) ρ := rfl
theorem house_spec {n : Nat} {g : D} (hb : Bag n g) (hn : n < 2 ^ 58) : ∃ (g' : D) (h : Nat) (L : List (Nat × List Nat)), Bag (n + 30) g' ∧ House h L ∧ m__law_house [g] = .rt (houD true h L) [some g'] := by
  obtain ⟨r1, g1, hr1, hb1, t1⟩ := take_spec (m := 3) hb (by omega) (by omega) (by omega)
  obtain ⟨r2, g2, hr2, hb2, t2⟩ := take_spec (m := 6) hb1 (by omega) (by omega) (by omega)
  obtain ⟨r3, g3, hr3, hb3, t3⟩ := take_spec (m := 2) hb2 (by omega) (by omega) (by omega)
  obtain ⟨h, hh⟩ : ∃ h, h = 2 + r1 := ⟨_, rfl⟩
  obtain ⟨many, hm⟩ : ∃ m, m = 1 + r2 := ⟨_, rfl⟩
  have e1 : (2 : Int) + (r1 : Int) = (h : Int) := by omega
  have e2 : (1 : Int) + (r2 : Int) = (many : Int) := by omega
  obtain ⟨ρ', lp, I⟩ := loopR (step := stepS (gN 6) l__law_house_1) (n := many) (ρ := [some g3, some (.int (h : Int)), some (.int (many : Int)), some (.int (r3 : Int)), some (.lst true []), some (.int 0), none, none, none])
    (HLoop (n + 3) h many r3) ⟨g3, 0, [], _, _, rfl, hb3, rfl, by omega, .nil, fun e he => absurd he (by simp)⟩
    fun j ρ hj I => house_turn (by omega) (by omega) (by omega) (by omega) hj I
  obtain ⟨g', at_, L, v6, v7, rfl, hb', hl, ha, hp, ho⟩ := I.ex
  refine ⟨g', h, L, hb'.mono (by omega), ⟨by omega, by omega, by omega, by omega, hp, fun e he => by have := (ho e he).1; omega, fun e he => (ho e he).2⟩, ?_⟩
  unfold m__law_house
  rw [semOf_ap]
  unfold b__law_house
  have hs2 : 2 ≤ sizeLine := by decide
  simp [t1, t2, t3, e1, e2, rng1_n (n := many) (by omega), lp, hs2]
  cases L with
  | nil => simp at hl; omega
  | cons e L => simp [houD, entD, ownD]
def rowS (R : List Nat) : Str := ⟨(R.map (97 + ·)).toArray⟩
theorem rowS_snoc (R : List Nat) (l : Nat) : rowS R ++ sg l = rowS (R ++ [l]) := by
  show Str.mk _ = Str.mk _
  simp [rowS, sg]
@[simp] theorem rowS_len (R : List Nat) : (rowS R).length = R.length := by
  show (rowS R).cps.size = _
  simp [rowS]
@[simp] theorem sg_len (l : Nat) : (sg l).length = 1 := rfl
def RowOk (L : List (Nat × List Nat)) (R : List Nat) : Prop := ∀ r ∈ R, ∃ e ∈ L, e.1 = r
theorem rowS_nil : Str.ofString "" = rowS [] := by decide +kernel
theorem row_spec {n h : Nat} {L : List (Nat × List Nat)} {g : D} {most : Nat} (hb : Bag n g) (hn : n < 2 ^ 58) (H : House h L) (hmost : most < 2 ^ 20) :
    ∃ (g' : D) (R : List Nat), Bag (n + 2 ^ 21) g' ∧ RowOk L R ∧ R.length ≤ max most 40 ∧ m__law_row [g, houD false h L, .int (most : Int)] = .rt (.str (rowS R)) [some g', none, none] := by
  obtain ⟨r1, g1, hr1, hb1, t1⟩ := take_spec (m := (most : Int) + 1) hb (by omega) (by omega) (by omega)
  obtain ⟨r2, g2, hr2, hb2, t2⟩ := take_spec (m := 8) hb1 (by omega) (by omega) (by omega)
  obtain ⟨r3, g3, hr3, hb3, t3⟩ := take_spec (m := 41) hb2 (by omega) (by omega) (by omega)
  have l1 := H.l1
  have l6 := H.l6
  have main : ∀ (g0 : D) (size : Nat), Bag (n + 3) g0 → size ≤ max most 40 → ∃ ρ', loopS (stepS (gN 5) l__law_row_1) ((List.range size).map fun i => .int ((i : Nat) : Int)) [some g0, some (houD false h L), some (.int (most : Int)), some (.int (size : Int)), some (.str (rowS [])), none] = .nx ρ' ∧
      ∃ (g' : D) (R : List Nat) (v5 : Option D), ρ' = [some g', some (houD false h L), some (.int (most : Int)), some (.int (size : Int)), some (.str (rowS R)), v5] ∧ Bag (n + 3 + size) g' ∧ R.length = size ∧ RowOk L R := by
    intro g0 size hb0 hs
    refine loopR (fun k ρ => ∃ (g' : D) (R : List Nat) (v5 : Option D), ρ = [some g', some (houD false h L), some (.int (most : Int)), some (.int (size : Int)), some (.str (rowS R)), v5] ∧ Bag (n + 3 + k) g' ∧ R.length = k ∧ RowOk L R)
      ⟨g0, [], none, rfl, hb0, rfl, fun r hr => absurd hr (by simp)⟩ ?_
    rintro j ρ hj ⟨g', R, v5, rfl, hb', hl, hR⟩
    obtain ⟨r, g'', hr, hb'', t⟩ := take_spec (m := (L.length : Int)) hb' (by omega) (by omega) (by omega)
    have hrl : r < L.length := by omega
    have hsz : (rowS R).length + (sg (L[r]'hrl).1).length ≤ sizeLine := by rw [rowS_len, sg_len]; unfold sizeLine; omega
    refine ⟨[some g'', some (houD false h L), some (.int (most : Int)), some (.int (size : Int)), some (.str (rowS (R ++ [(L[r]'hrl).1]))), some (.int (j : Int))], ?_, g'', R ++ [(L[r]'hrl).1], _, rfl, hb''.mono (by omega), by simp [hl], ?_⟩
    · have i1 : gIxI (.lst false (L.map (entD false))) (.int (r : Int)) = some (entD false (L[r]'hrl)) := by
        refine ixI_of ?_ imm_ent
        rw [ix_l, at_nat, List.getElem?_map, List.getElem?_eq_getElem hrl]; rfl
      have i2 : gIxI (entD false (L[r]'hrl)) (.int 0) = some (.str (sg (L[r]'hrl).1)) := ixI_of ent_ix0 rfl
      rw [ap_step]
      unfold l__law_row_1
      simp [t, i1, i2, add_ss, -rowS_len, -sg_len]
      rw [if_pos hsz]
      simp [rowS_snoc]
    · intro x hx
      rcases List.mem_append.mp hx with hx | hx
      · exact hR x hx
      · rw [List.mem_singleton] at hx; subst hx
        exact ⟨_, List.getElem_mem hrl, rfl⟩
  by_cases e : r2 = 1
  · obtain ⟨ρ', lp, g', R, v5, rfl, hb', hl, hR⟩ := main g3 r3 hb3 (by omega)
    refine ⟨g', R, hb'.mono (by omega), hR, by omega, ?_⟩
    have e' : (r2 : Int) = 1 := by omega
    unfold m__law_row
    rw [semOf_ap]
    unfold b__law_row
    simp [t1, t2, t3, e', rng1_n (n := r3) (by omega), lp, rowS_nil]
  · obtain ⟨ρ', lp, g', R, v5, rfl, hb', hl, hR⟩ := main g2 r1 (hb2.mono (by omega)) (by omega)
    refine ⟨g', R, hb'.mono (by omega), hR, by omega, ?_⟩
    have e' : ¬ (r2 : Int) = 1 := by omega
    unfold m__law_row
    rw [semOf_ap]
    unfold b__law_row
    simp [t1, t2, e', rng1_n (n := r1) (by omega), lp, rowS_nil]
theorem drawn_spec (c : Int) {most : Nat} (hmost : most < 2 ^ 20) :
    ∃ (g' : D) (h : Nat) (L : List (Nat × List Nat)) (R : List Nat), Bag (2 ^ 22) g' ∧ House h L ∧ RowOk L R ∧ R.length ≤ max most 40 ∧ m__law_drawn [.int c, .int (most : Int)] = .rt (.tup [g', houD false h L, .str (rowS R)]) [none, none] := by
  obtain ⟨g0, hb0, t0⟩ := bag_spec c
  obtain ⟨g1, h, L, hb1, H, t1⟩ := house_spec hb0 (by omega)
  obtain ⟨g2, R, hb2, hR, hl, t2⟩ := row_spec hb1 (by omega) H hmost
  refine ⟨g2, h, L, R, hb2.mono (by omega), H, hR, hl, ?_⟩
  have i0 : isImm g0 = false := by obtain ⟨a, b, rfl, _⟩ := hb0; rfl
  have i2 : isImm g2 = false := by obtain ⟨a, b, rfl, _⟩ := hb2; rfl
  have hs3 : 3 ≤ sizeLine := by decide
  unfold m__law_drawn
  rw [semOf_ap]
  unfold b__law_drawn
  simp [t0, t1, t2, i2, hs3]
theorem whole_spec (i : Int) : m_is_whole [.int i] = .rt (.bl true) [none] := by
  unfold m_is_whole; rw [semOf_ap]; unfold b_is_whole; simp
theorem rising_spec {h : Nat} {ow : List Nat} (hr : ow.Pairwise (· < ·)) (hl : ∀ x ∈ ow, x < h) : m_is_rising [ownD false ow, .int (h : Int)] = .rt (.bl true) [none, none] := by
  obtain ⟨ρ', lp, I⟩ := loopL (step := stepS (gN 3) l_is_rising_1) (f := natD) (fun xs ρ => ∃ (a : Int) (v3 : Option D), ρ = [some (ownD false ow), some (.int (h : Int)), some (.int a), v3] ∧ xs.Pairwise (· < ·) ∧ ∀ x ∈ xs, a < (x : Int) ∧ x < h)
    ow [some (ownD false ow), some (.int (h : Int)), some (.int (-1)), none] ⟨-1, none, rfl, hr, fun x hx => ⟨by omega, hl x hx⟩⟩ (by
      rintro x xs ρ ⟨a, v3, rfl, hp, hx⟩
      obtain ⟨h1, h2⟩ := hx x List.mem_cons_self
      rw [List.pairwise_cons] at hp
      refine ⟨[some (ownD false ow), some (.int (h : Int)), some (.int (x : Int)), some (.int (x : Int))], ?_, x, _, rfl, hp.2, fun y hy => ⟨by have := hp.1 y hy; omega, (hx y (List.mem_cons_of_mem _ hy)).2⟩⟩
      rw [ap_step]
      unfold l_is_rising_1 natD
      have h2' : (x : Int) < (h : Int) := by omega
      simp [whole_spec, h1, h2])
  obtain ⟨a, v3, rfl, _, _⟩ := I
  unfold m_is_rising; rw [semOf_ap]; unfold b_is_rising
  unfold ownD at lp ⊢
  simp [lp]
theorem abc_in {l : Nat} (h : l < 26) : gIn (.str (sg l)) (.str (Str.ofString "abcdefghijklmnopqrstuvwxyz")) = some (.bl true) := by
  show (some (decide ((97 + l) ∈ (Str.ofString "abcdefghijklmnopqrstuvwxyz").cps.toList))).map D.bl = _
  rw [abc_eq, decide_eq_true]
  · rfl
  · rw [List.mem_map]; exact ⟨l, List.mem_range.mpr h, rfl⟩
theorem sign_spec {l : Nat} (h : l < 26) : m_is_sign [.str (sg l)] = .rt (.bl true) [none] := by
  have hs : 1 ≤ sizeLine := by decide
  unfold m_is_sign; rw [semOf_ap]; unfold b_is_sign; simp [abc_in h, hs]
theorem entry_spec {h : Nat} {e : Nat × List Nat} (hl : e.1 < 26) (ho : Own h e.2) : m_is_entry [entD false e, .int (h : Int)] = .rt (.bl true) [none, none] := by
  have hr := rising_spec ho.rise ho.lt
  have hlen : (0 : Int) < (e.2.length : Int) := by
    have := List.length_pos_iff.mpr ho.ne; omega
  have i0 := imm_own (ow := e.2)
  unfold ownD at hr i0
  unfold m_is_entry; rw [semOf_ap]; unfold b_is_entry entD ownD
  have hg : gGt (.int (e.2.length : Int)) (.int 0) = some (.bl true) := by rw [gt_ii, decide_eq_true hlen]
  simp [sign_spec hl, hr, hlen, List.length_pos_iff, ho.ne]
theorem sg_lt {a b : Nat} (h : a < b) : gLt (.str (sg a)) (.str (sg b)) = some (.bl true) := by
  rw [lt_ss, decide_eq_true]
  show [97 + a] < [97 + b]
  exact List.cons_lt_cons_iff.mpr (.inl (by omega))
theorem nil_lt {a : Nat} : gLt (.str (Str.ofString "")) (.str (sg a)) = some (.bl true) := by
  rw [lt_ss, decide_eq_true]
  rw [show (Str.ofString "").cps.toList = [] from by decide +kernel]
  exact List.Lex.nil
theorem ishouse_spec {h : Nat} {L : List (Nat × List Nat)} (H : House h L) : m_is_house [houD false h L] = .rt (.bl true) [none] := by
  obtain ⟨ρ', lp, I⟩ := loopL (step := stepS (gN 4) l_is_house_1) (f := entD false) (fun xs ρ => ∃ (a : Str) (v4 : Option D), ρ = [some (houD false h L), some (.int (h : Int)), some (.lst false (L.map (entD false))), some (.str a), v4] ∧ (xs.Pairwise fun e f => e.1 < f.1) ∧ ∀ e ∈ xs, gLt (.str a) (.str (sg e.1)) = some (.bl true) ∧ e.1 < 26 ∧ Own h e.2)
    L [some (houD false h L), some (.int (h : Int)), some (.lst false (L.map (entD false))), some (.str (Str.ofString "")), none] ⟨_, none, rfl, H.rise, fun e he => ⟨nil_lt, H.lt e he, H.own e he⟩⟩ (by
      rintro e xs ρ ⟨a, v4, rfl, hp, hx⟩
      obtain ⟨h1, h2, h3⟩ := hx e List.mem_cons_self
      rw [List.pairwise_cons] at hp
      refine ⟨[some (houD false h L), some (.int (h : Int)), some (.lst false (L.map (entD false))), some (.str (sg e.1)), some (entD false e)], ?_, _, _, rfl, hp.2, fun f hf => ⟨sg_lt (hp.1 f hf), (hx f (List.mem_cons_of_mem _ hf)).2⟩⟩
      rw [ap_step]
      unfold l_is_house_1
      simp [entry_spec h2 h3, h1, -lt_ss])
  obtain ⟨a, v3, rfl, _, _⟩ := I
  unfold m_is_house; rw [semOf_ap]; unfold b_is_house
  have h2 := H.h2; have h4 := H.h4; have l1 := H.l1; have l6 := H.l6
  have c1 : (2 : Int) ≤ (h : Int) := by omega
  have c2 : (h : Int) ≤ 4 := by omega
  have c3 : (1 : Int) ≤ (L.length : Int) := by omega
  have c4 : (L.length : Int) ≤ 6 := by omega
  unfold houD at lp ⊢
  simp [whole_spec, c1, c2, c3, c4, lp]
theorem look_spec {h : Nat} {L : List (Nat × List Nat)} (H : House h L) : m_look_house [houD false h L] = .rt .non [none] := by
  unfold m_look_house; rw [semOf_ap]; unfold b_look_house; simp [ishouse_spec H]
def sgD (l : Nat) : D := .str (sg l)
@[simp] theorem frz_sgD {l} : frz (sgD l) = sgD l := rfl
@[simp] theorem imm_sgD {l} : isImm (sgD l) = true := rfl
theorem sg_inj {a b : Nat} : sg a = sg b ↔ a = b := by
  constructor
  · intro h
    have : (#[97 + a] : Array Nat) = #[97 + b] := congrArg Str.cps h
    simp at this; exact this
  · intro h; rw [h]
theorem fst_nodup {L : List (Nat × List Nat)} (h : L.Pairwise fun e f => e.1 < f.1) : (L.map (·.1)).Nodup := by
  unfold List.Nodup; rw [List.pairwise_map]; exact h.imp fun hab => Nat.ne_of_lt hab
def cellM (ns : List Int) (k : Nat) : Int := (ns[k]?).getD 0
theorem cell_spec (ns : List Int) (k : Nat) : m__law_cell [.rol (ns.map D.int), .int (k : Int)] = .rt (.int (cellM ns k)) [none, none] := by
  unfold m__law_cell; rw [semOf_ap]; unfold b__law_cell cellM
  by_cases h : k < ns.length
  · simp [h, at_nat]
  · simp [h]
end M
namespace M
open PySem PySem.Spec PyProof.Rows L2 Hap
local instance : TabC := noTab
def ow (L : List (Nat × List Nat)) (l : Nat) : List Nat := ((L.find? fun e => e.1 == l).map (·.2)).getD []
theorem ow_mem {L : List (Nat × List Nat)} (h : L.Pairwise fun e f => e.1 < f.1) {e : Nat × List Nat} (he : e ∈ L) : ow L e.1 = e.2 := by
  unfold ow
  induction L with
  | nil => cases he
  | cons a L ih =>
    rw [List.pairwise_cons] at h
    rw [List.find?_cons]
    rcases List.mem_cons.mp he with rfl | he
    · simp
    · have : ¬ a.1 = e.1 := Nat.ne_of_lt (h.1 e he)
      rw [show (a.1 == e.1) = false by simpa using this]
      exact ih h.2 he
/-- they share a hand -/
def Hang (L : List (Nat × List Nat)) (a b : Nat) : Prop := ∃ x, x ∈ ow L a ∧ x ∈ ow L b
inductive Reach (H : Nat → Nat → Prop) : Nat → Nat → Prop
  | refl (i) : Reach H i i
  | tail {i p k} : Reach H i p → p < k → H p k → Reach H i k
theorem Reach.le {H : Nat → Nat → Prop} {i k : Nat} (h : Reach H i k) : i ≤ k := by
  induction h with
  | refl => exact Nat.le_refl _
  | tail _ l _ ih => omega
theorem Reach.trans {H : Nat → Nat → Prop} {i p k : Nat} (h : Reach H i p) (r : Reach H p k) : Reach H i k := by
  induction r with
  | refl => exact h
  | tail _ l h2 ih => exact .tail ih l h2
theorem Reach.tail_iff {H : Nat → Nat → Prop} {i k : Nat} : Reach H i k ↔ i = k ∨ ∃ p, p < k ∧ H p k ∧ Reach H i p := by
  constructor
  · intro h
    cases h with
    | refl => exact .inl rfl
    | tail r l h => exact .inr ⟨_, l, h, r⟩
  · rintro (rfl | ⟨p, l, h, r⟩)
    · exact .refl _
    · exact .tail r l h
/-- the row's letter at a place -/
def lt (R : List Nat) (i : Nat) : Nat := (R[i]?).getD 0
/-- the place i lies below the place j -/
def Below (L : List (Nat × List Nat)) (R : List Nat) (i j : Nat) : Prop := Reach (fun p k => Hang L (lt R p) (lt R k)) i j
@[simp] theorem frz_natD {x} : frz (natD x) = natD x := rfl
@[simp] theorem imm_natD {x} : isImm (natD x) = true := rfl
theorem natD_eq {x : Nat} : natD x = .int (x : Int) := rfl
theorem fold_bit (last : Nat → Nat) (i : Nat) : ∀ (ows : List Nat) (b : Nat), (ows.foldl (fun b x => b ||| last x) b).testBit i = (b.testBit i || ows.any fun x => (last x).testBit i)
  | [], b => by simp
  | x :: xs, b => by rw [List.foldl_cons, fold_bit last i xs, Nat.testBit_or, List.any_cons, Bool.or_assoc]
section
variable {h : Nat} {L : List (Nat × List Nat)} {R : List Nat}
/-- what stands behind k places -/
structure BI (L : List (Nat × List Nat)) (R : List Nat) (k : Nat) (Bs : List Nat) (last : Nat → Nat) : Prop where
  len : Bs.length = k
  bs : ∀ (j b : Nat), Bs[j]? = some b → ∀ i, b.testBit i = true ↔ Below L R i j
  la : ∀ x i, (last x).testBit i = true ↔ ∃ p, p < k ∧ x ∈ ow L (lt R p) ∧ Below L R i p
theorem BI.bits {k : Nat} {Bs : List Nat} {last : Nat → Nat} (I : BI L R k Bs last) (i : Nat) : ((ow L (lt R k)).foldl (fun b x => b ||| last x) (2 ^ k)).testBit i = true ↔ Below L R i k := by
  rw [fold_bit, Bool.or_eq_true, Nat.testBit_two_pow, List.any_eq_true]
  unfold Below
  rw [Reach.tail_iff]
  constructor
  · rintro (e | ⟨x, hx, hb⟩)
    · exact .inl (of_decide_eq_true e).symm
    · obtain ⟨p, hp, hxp, hr⟩ := (I.la x i).mp hb
      exact .inr ⟨p, hp, ⟨x, hxp, hx⟩, hr⟩
  · rintro (e | ⟨p, hp, ⟨x, hxp, hx⟩, hr⟩)
    · exact .inl (decide_eq_true e.symm)
    · exact .inr ⟨x, hx, (I.la x i).mpr ⟨p, hp, hxp, hr⟩⟩
theorem enumD_len : ∀ (k : Nat) (ds : List D), (enumD k ds).length = ds.length
  | _, [] => rfl
  | k, d :: ds => by rw [enumD, List.length_cons, enumD_len (k + 1) ds]; rfl
end
theorem put_fold {κ : Type} [DecidableEq κ] : ∀ (m : List (κ × D)) (ks : List κ) (xs : List D), (m.map (·.1)).Nodup → (∀ p ∈ m, p.1 ∉ ks) → m.foldl (fun acc kd => putKs acc.1 acc.2 kd.1 kd.2) (ks, xs) = (ks ++ m.map (·.1), xs ++ m.map (·.2))
  | [], ks, xs, _, _ => by simp
  | p :: m, ks, xs, nd, hd => by
    rw [List.map_cons, List.nodup_cons] at nd
    rw [List.foldl_cons]
    have e : putKs ks xs p.1 p.2 = (ks ++ [p.1], xs ++ [p.2]) := by unfold putKs; rw [if_neg (hd p List.mem_cons_self)]
    rw [e, put_fold m _ _ nd.2 fun q hq => ?_]
    · simp
    · intro hm
      rcases List.mem_append.mp hm with hm | hm
      · exact hd q (List.mem_cons_of_mem _ hq) hm
      · rw [List.mem_singleton] at hm
        exact nd.1 (hm ▸ List.mem_map.mpr ⟨q, hq, rfl⟩)
theorem getK_map {κ α : Type} [DecidableEq κ] {kf : α → κ} {vf : α → D} : ∀ {xs : List α} {e : α}, (xs.map kf).Nodup → e ∈ xs → getK (xs.map kf) (xs.map vf) (kf e) = some (vf e)
  | x :: xs, e, nd, he => by
    rw [List.map_cons, List.nodup_cons] at nd
    rw [List.map_cons, List.map_cons, getK]
    rcases List.mem_cons.mp he with rfl | he
    · rw [if_pos rfl]
    · have : kf x ≠ kf e := fun z => nd.1 (z ▸ List.mem_map.mpr ⟨e, he, rfl⟩)
      rw [if_neg this]; exact getK_map nd.2 he
theorem rise_len : ∀ (l : List Nat) (lo h : Nat), l.Pairwise (· < ·) → (∀ x ∈ l, lo ≤ x ∧ x < h) → l.length ≤ h - lo
  | [], _, _, _, _ => by simp
  | x :: l, lo, h, hp, hx => by
    rw [List.pairwise_cons] at hp
    have h1 := hx x List.mem_cons_self
    have := rise_len l (x + 1) h hp.2 fun y hy => ⟨hp.1 y hy, (hx y (List.mem_cons_of_mem _ hy)).2⟩
    rw [List.length_cons]; omega
section
variable {h : Nat} {L : List (Nat × List Nat)} {R : List Nat}
def keyL (e : Nat × List Nat) : Key := .inr (sg e.1)
def ownsD (L : List (Nat × List Nat)) : D := .dct true (L.map keyL) (L.map fun e => ownD false e.2)
theorem key_nodup (H : House h L) : (L.map keyL).Nodup := by
  have := fst_nodup H.rise
  unfold List.Nodup at this ⊢
  rw [List.pairwise_map] at this ⊢
  exact this.imp fun hab z => hab (sg_inj.mp (Sum.inr.inj z))
theorem dict_spec (H : House h L) : gDict [.lst false (L.map (entD false))] = some (ownsD L) := by
  have hp : ∀ L : List (Nat × List Nat), pairsD (L.map (entD false)) = some (L.map fun e => (keyL e, ownD false e.2)) := by
    intro L
    induction L with
    | nil => rfl
    | cons e L ih =>
      rw [List.map_cons, entD, pairsD, ih]
      simp [Hap.keyOf, keyL]
  show (pairsD (L.map (entD false))).map _ = _
  rw [hp]
  have hm := put_fold (L.map fun e => (keyL e, ownD false e.2)) [] [] (by rw [List.map_map]; exact key_nodup H) (by simp)
  have hm' : mergeD (L.map fun e => (keyL e, ownD false e.2)) = _ := hm
  simp only [Option.map_some, hm']
  simp [ownsD, Function.comp_def]
theorem owns_ix (H : House h L) {e : Nat × List Nat} (he : e ∈ L) : gIx (ownsD L) (sgD e.1) = some (ownD false e.2) := by
  show (Hap.keyOf (sgD e.1)).bind (getK _ _) = _
  exact getK_map (kf := keyL) (vf := fun e => ownD false e.2) (key_nodup H) he
def hangB (L : List (Nat × List Nat)) (a b : Nat) : Bool := (ow L a).any fun x => decide (x ∈ ow L b)
theorem hangB_iff {a b : Nat} : hangB L a b = true ↔ Hang L a b := by
  unfold hangB Hang; rw [List.any_eq_true]; simp
theorem eqd_natD : EqD natD := eqd_nat
end
@[simp] theorem frzs_ints {ns : List Int} : frzs (ns.map D.int) = ns.map D.int := frzs_mapf fun _ _ => rfl
end M
namespace M
open PySem PySem.Spec PyProof.Rows L2 Hap
local instance : TabC := noTab
def b__law_whole : Ev → RS :=
  (fRet (fAndD (fI (vOpN gIsi (vCons (vVar 0) (vCons (vK (.gv (.ty "int"))) vNil)))) (fNotD (fI (vOpN gIsi (vCons (vVar 0) (vCons (vK (.gv (.ty "bool"))) vNil)))))))
def m__law_whole : Fn := semOf (List.replicate 1 false) 1 b__law_whole
theorem ne_nil {α : Type} {f : α → D} {xs : List α} {o o' : Bool} (hx : ∀ x ∈ xs, Sh 60 (f x)) : gNe (.lst o (xs.map f)) (.lst o' []) = some (.bl (!decide (xs = []))) := by
  have h1 : Sh 61 (.lst o (xs.map f)) := sh_lst fun d hd => by obtain ⟨x, hx', rfl⟩ := List.mem_map.mp hd; exact hx x hx'
  have h2 : Sh 61 (.lst o' []) := sh_lst fun d hd => by cases hd
  have e : gEq (.lst o (xs.map f)) (.lst o' []) = some (.bl (decide (xs = []))) := by
    unfold gEq
    dsimp only
    rw [if_pos ⟨h1.shaped (by omega), h2.shaped (by omega)⟩]
    cases xs with
    | nil => simp [toPy, toPys, PyData.eqv, PyData.eqvAll]
    | cons x xs => simp [toPy, toPys, PyData.eqv, PyData.eqvAll]
  unfold gNe; rw [e]
end M
namespace M
open PySem PySem.Spec PyProof.Rows L2 Hap
local instance : TabC := noTab
def see (L : List (Nat × List Nat)) (x : Nat) (R : List Nat) : List Nat := R.filter fun r => decide (x ∈ ow L r)
def joinR (d : D) (k : R D) : R D := match d with
  | .str _ => k
  | _ => .stk
@[simp] theorem joinR_s {x : Str} {k : R D} : joinR (.str x) k = k := (rfl)
@[simp] theorem ap_join {f g : Ev → R D} {ρ : Ev} : fJoin f g ρ = (f ρ).bind fun d ρ1 => joinR d ((g ρ1).bind fun e ρ2 => R.of (gJoin d e) ρ2) := by
  unfold fJoin joinR; rfl
section
variable {h : Nat} {L : List (Nat × List Nat)} {R R' : List Nat}
theorem ow_of_mem (H : House h L) {r x : Nat} : x ∈ ow L r ↔ ∃ e ∈ L, e.1 = r ∧ x ∈ e.2 := by
  constructor
  · intro hx
    unfold ow at hx
    cases hf : L.find? fun e => e.1 == r with
    | none => rw [hf] at hx; simp at hx
    | some e =>
      rw [hf] at hx
      have := List.find?_some hf
      exact ⟨e, List.mem_of_find?_eq_some hf, by simpa using this, by simpa using hx⟩
  · rintro ⟨e, he, rfl, hx⟩
    rw [ow_mem H.rise he]; exact hx
def rowD (R : List Nat) : D := .str (rowS R)
@[simp] theorem frz_rowD {R} : frz (rowD R) = rowD R := rfl
@[simp] theorem imm_rowD {R} : isImm (rowD R) = true := rfl
theorem RowOk.lt26 (H : House h L) (hR : RowOk L R) : ∀ r ∈ R, r < 26 := fun r hr => by
  obtain ⟨e, he, rfl⟩ := hR r hr; exact H.lt e he
theorem RowOk.sub (hR : RowOk L R) (hs : ∀ r ∈ R', r ∈ R) : RowOk L R' := fun r hr => hR r (hs r hr)
theorem RowOk.see (hR : RowOk L R) {x : Nat} : RowOk L (see L x R) := hR.sub fun r hr => (List.mem_filter.mp hr).1
/-- all hands see the same -/
def Same (h : Nat) (L : List (Nat × List Nat)) (A B : List Nat) : Prop := ∀ x, x < h → see L x A = see L x B
instance : Decidable (Same h L R R') := inferInstanceAs (Decidable (∀ x, x < h → _))
end
end M
namespace M
open PySem PySem.Spec PyProof.Rows L2 Hap
local instance : TabC := noTab
section
variable {h : Nat} {L : List (Nat × List Nat)} {R S : List Nat}
theorem Hang.symm {a b : Nat} (h : Hang L a b) : Hang L b a := by
  obtain ⟨x, h1, h2⟩ := h; exact ⟨x, h2, h1⟩
theorem hang_self (H : House h L) (hR : RowOk L R) {a : Nat} (ha : a ∈ R) : Hang L a a := by
  obtain ⟨e, he, rfl⟩ := hR a ha
  have ho := H.own e he
  obtain ⟨x, hx⟩ := List.exists_mem_of_ne_nil _ ho.ne
  rw [Hang, ow_mem H.rise he]
  exact ⟨x, hx, hx⟩
/-- the letter at p hangs on none ahead -/
structure Fore (L : List (Nat × List Nat)) (R : List Nat) (p : Nat) : Prop where
  lt : p < R.length
  free : ∀ q, q < p → ¬ Hang L (M.lt R q) (M.lt R p)
/-- the place of the least letter that hangs on none ahead -/
structure Lp (L : List (Nat × List Nat)) (R : List Nat) (p : Nat) : Prop where
  fore : Fore L R p
  le : ∀ q, Fore L R q → M.lt R p ≤ M.lt R q
inductive Least (L : List (Nat × List Nat)) : List Nat → List Nat → Prop
  | nil : Least L [] []
  | step {R S p} : Lp L R p → Least L (R.eraseIdx p) S → Least L R (M.lt R p :: S)
theorem Least.len {R S : List Nat} (h : Least L R S) : S.length = R.length := by
  induction h with
  | nil => rfl
  | step hp _ ih =>
    have := hp.fore.lt
    rw [List.length_cons, ih, List.length_eraseIdx_of_lt this]; omega
theorem lt_mem {p : Nat} (hp : p < R.length) : M.lt R p ∈ R := by
  have : M.lt R p = R[p] := by simp [M.lt, hp]
  rw [this]; exact List.getElem_mem hp
theorem erase_mem {p : Nat} {r : Nat} (h : r ∈ R.eraseIdx p) : r ∈ R := (List.eraseIdx_sublist R p).subset h
theorem RowOk.erase (hR : RowOk L R) {p : Nat} : RowOk L (R.eraseIdx p) := hR.sub fun _ h => erase_mem h
theorem Least.ok (h : Least L R S) (hR : RowOk L R) : RowOk L S := by
  induction h with
  | nil => exact hR
  | step hp _ ih =>
    intro r hr
    rcases List.mem_cons.mp hr with rfl | hr
    · exact hR _ (lt_mem hp.fore.lt)
    · exact ih hR.erase r hr
theorem lt_cons_succ {a : Nat} {R : List Nat} {p : Nat} : M.lt (a :: R) (p + 1) = M.lt R p := by simp [M.lt]
theorem lt_cons_zero {a : Nat} {R : List Nat} : M.lt (a :: R) 0 = a := by simp [M.lt]
theorem Fore.tail {a : Nat} {p : Nat} (h : Fore L (a :: R) (p + 1)) : Fore L R p ∧ ¬ Hang L a (M.lt R p) := by
  refine ⟨⟨by have := h.lt; rw [List.length_cons] at this; omega, fun q hq => ?_⟩, ?_⟩
  · have := h.free (q + 1) (by omega)
    rwa [lt_cons_succ, lt_cons_succ] at this
  · have := h.free 0 (by omega)
    rwa [lt_cons_succ, lt_cons_zero] at this
/-- what hangs on none ahead may be brought ahead: all hands see the same -/
theorem see_fore {x : Nat} : ∀ {R : List Nat} {p : Nat}, Fore L R p → see L x (M.lt R p :: R.eraseIdx p) = see L x R
  | [], p, h => absurd h.lt (by simp)
  | a :: R, 0, h => by rw [lt_cons_zero]; rfl
  | a :: R, p + 1, h => by
    obtain ⟨h1, h2⟩ := h.tail
    have ih := see_fore (x := x) h1
    rw [lt_cons_succ, List.eraseIdx_cons_succ]
    have ih' : see L x (M.lt R p :: R.eraseIdx p) = see L x R := ih
    unfold see at ih' ⊢
    simp only [List.filter_cons] at ih' ⊢
    rw [← ih']
    by_cases c1 : x ∈ ow L (M.lt R p)
    · have c2 : ¬ x ∈ ow L a := fun c2 => h2 ⟨x, c2, c1⟩
      simp [c1, c2]
    · simp [c1]
theorem Least.see (hh : Least L R S) (x : Nat) : see L x S = M.see L x R := by
  induction hh with
  | nil => rfl
  | step hp _ ih =>
    rw [← see_fore hp.fore]
    unfold M.see at ih ⊢
    simp only [List.filter_cons]
    rw [ih]
theorem Least.same (hh : Least L R S) : Same h L S R := fun x _ => hh.see x
/-- a letter that hangs on none ahead, by what the hands see -/
theorem fore_iff {a : Nat} : ∀ {R : List Nat}, (∃ p, Fore L R p ∧ M.lt R p = a) ↔ a ∈ R ∧ (∀ x ∈ ow L a, (see L x R).head? = some a)
  | [] => by
    constructor
    · rintro ⟨p, h, _⟩; exact absurd h.lt (by simp)
    · rintro ⟨h, _⟩; cases h
  | b :: R => by
    have ih := fore_iff (a := a) (R := R)
    constructor
    · rintro ⟨p, h, rfl⟩
      refine ⟨lt_mem h.lt, fun x hx => ?_⟩
      rw [← see_fore (x := x) h]
      unfold M.see
      rw [List.filter_cons, if_pos (decide_eq_true hx)]; rfl
    · rintro ⟨h1, h2⟩
      by_cases e : a = b
      · subst e
        exact ⟨0, ⟨by simp, fun q hq => by omega⟩, lt_cons_zero⟩
      · have hab : ¬ Hang L b a := by
          rintro ⟨x, hx1, hx2⟩
          have := h2 x hx2
          unfold M.see at this
          rw [List.filter_cons, if_pos (decide_eq_true hx1)] at this
          exact e (by simpa using this.symm)
        have hm : a ∈ R := (List.mem_cons.mp h1).resolve_left e
        obtain ⟨p, hp, hpa⟩ := ih.mpr ⟨hm, fun x hx => by
          have := h2 x hx
          have c2 : ¬ x ∈ ow L b := fun c2 => hab ⟨x, c2, hx⟩
          unfold M.see at this ⊢
          rw [List.filter_cons, if_neg (by simpa using c2)] at this
          exact this⟩
        refine ⟨p + 1, ⟨by have := hp.lt; simp; omega, fun q hq => ?_⟩, by rw [lt_cons_succ]; exact hpa⟩
        rw [lt_cons_succ]
        cases q with
        | zero => rw [lt_cons_zero, hpa]; exact hab
        | succ q => rw [lt_cons_succ]; exact hp.free q (by omega)
theorem mem_see {a x : Nat} : a ∈ see L x R ↔ a ∈ R ∧ x ∈ ow L a := by
  unfold M.see; rw [List.mem_filter, decide_eq_true_eq]
/-- rows of which all hands see the same have the same letters -/
theorem Same.mem (H : House h L) {A B : List Nat} (hA : RowOk L A) (hs : Same h L A B) {a : Nat} (ha : a ∈ A) : a ∈ B := by
  obtain ⟨e, he, rfl⟩ := hA a ha
  obtain ⟨x, hx⟩ := List.exists_mem_of_ne_nil _ (H.own e he).ne
  have hx' : x ∈ ow L e.1 := by rw [ow_mem H.rise he]; exact hx
  have : e.1 ∈ M.see L x A := mem_see.mpr ⟨ha, hx'⟩
  rw [hs x ((H.own e he).lt x hx)] at this
  exact (mem_see.mp this).1
theorem Same.symm {A B : List Nat} (hs : Same h L A B) : Same h L B A := fun x hx => (hs x hx).symm
theorem Same.trans {A B C : List Nat} (hs : Same h L A B) (ht : Same h L B C) : Same h L A C := fun x hx => (hs x hx).trans (ht x hx)
theorem Same.refl {A : List Nat} : Same h L A A := fun _ _ => rfl
theorem ow_lt (H : House h L) {a x : Nat} (hx : x ∈ ow L a) : x < h := by
  obtain ⟨e, he, _, hx'⟩ := (ow_of_mem H).mp hx
  exact (H.own e he).lt x hx'
theorem Same.fore (H : House h L) {A B : List Nat} (hA : RowOk L A) (hs : Same h L A B) {a : Nat} (ha : ∃ p, Fore L A p ∧ M.lt A p = a) : ∃ p, Fore L B p ∧ M.lt B p = a := by
  obtain ⟨h1, h2⟩ := fore_iff.mp ha
  exact fore_iff.mpr ⟨hs.mem H hA h1, fun x hx => by rw [← hs x (ow_lt H hx)]; exact h2 x hx⟩
/-- the least row hangs on what the hands see alone -/
theorem Least.uniq (H : House h L) {A S : List Nat} (hA : Least L A S) : ∀ {B T : List Nat}, RowOk L A → RowOk L B → Least L B T → Same h L A B → S = T := by
  induction hA with
  | nil =>
    intro B T _ hB hT hs
    cases hT with
    | nil => rfl
    | step hp _ =>
      have := hs.symm.mem H hB (lt_mem hp.fore.lt)
      cases this
  | @step A S p hp hS ih =>
    intro B T hA hB hT hs
    cases hT with
    | nil =>
      have := hs.mem H hA (lt_mem hp.fore.lt)
      cases this
    | @step _ T q hq hT =>
      have e : M.lt A p = M.lt B q := by
        obtain ⟨q', h1, h2⟩ := hs.fore H hA ⟨p, hp.fore, rfl⟩
        obtain ⟨p', h3, h4⟩ := hs.symm.fore H hB ⟨q, hq.fore, rfl⟩
        have l1 := hq.le q' h1
        have l2 := hp.le p' h3
        omega
      rw [e]
      congr 1
      refine ih hA.erase hB.erase hT fun x hx => ?_
      have h1 := see_fore (x := x) hp.fore
      have h2 := see_fore (x := x) hq.fore
      rw [hs x hx, ← h2, e] at h1
      unfold M.see at h1 ⊢
      simp only [List.filter_cons] at h1
      split at h1
      · exact (List.cons.inj h1).2
      · exact h1
end
end M
namespace M
open PySem PySem.Spec PyProof.Rows L2 Hap
local instance : TabC := noTab
def b__law_are_free : Ev → RS :=
  (fSeq (fAsg (fOpN gDict (fCons (fI (vOp2 gIx (vVar 0) (vK (.int 1)))) fNil)) (gN 3))
    (fSeq (fIf (fTv (vOp2 gEq (vVar 1) (vVar 2)))
    (fRet (fK (.bl false)))
    fNext)
    (fRet (fOp2V gEq (fLc (fIt itemsL (fI (vOp2 gIx (vVar 3) (vVar 1)))) (gN 4) (fTv (vOp2 gIn (vVar 4) (vOp2 gIx (vVar 3) (vVar 2)))) (fVar 4) [4]) (vLst vNil)))))
def m__law_are_free : Fn := semOf (List.replicate 3 false) 5 b__law_are_free
end M
namespace M
open PySem PySem.Spec PyProof.Rows L2 Hap
local instance : TabC := noTab
end M
namespace M
open PySem PySem.Spec PyProof.Rows L2 Hap
local instance : TabC := noTab
section
variable {h : Nat} {L : List (Nat × List Nat)} {R : List Nat}
theorem free_spec (H : House h L) {a b : Nat} (ha : ∃ e ∈ L, e.1 = a) (hb : ∃ e ∈ L, e.1 = b) : m__law_are_free [houD false h L, sgD a, sgD b] = .rt (.bl (!hangB L a b)) [none, none, none] := by
  obtain ⟨e, he, rfl⟩ := ha
  obtain ⟨f, hf, rfl⟩ := hb
  have hself : e.1 = f.1 → hangB L e.1 f.1 = true := fun q => by
    rw [← q, hangB_iff]
    exact hang_self H (R := [e.1]) (fun r hr => by rw [List.mem_singleton] at hr; exact ⟨e, he, hr.symm⟩) (by simp)
  have lc : fLc (fIt itemsL (fI (vOp2 gIx (vVar 3) (vVar 1)))) (gN 4) (fTv (vOp2 gIn (vVar 4) (vOp2 gIx (vVar 3) (vVar 2)))) (fVar 4) [4] [some (houD false h L), some (sgD e.1), some (sgD f.1), some (ownsD L), none]
      = .ok (.lst true ((e.2.filter fun x => decide (x ∈ f.2)).map natD)) [some (houD false h L), some (sgD e.1), some (sgD f.1), some (ownsD L), none] := by
    have hlen : e.2.length ≤ sizeLine := by
      have := rise_len e.2 0 h (H.own e he).rise fun x hx => ⟨by omega, (H.own e he).lt x hx⟩
      have := H.h4; unfold sizeLine; omega
    refine lc_map (g := natD) (by simp [owns_ix H he, ownD]) (by simp) hlen fun x hx => ?_
    have hin : gIn (natD x) (ownD false f.2) = some (.bl (decide (x ∈ f.2))) := in_map eqd_natD sh_int fun y _ => sh_int
    exact ⟨[some (houD false h L), some (sgD e.1), some (sgD f.1), some (ownsD L), some (natD x)], by simp, [some (houD false h L), some (sgD e.1), some (sgD f.1), some (ownsD L), some (natD x)], by simp [owns_ix H hf, hin], fun _ => ⟨[some (houD false h L), some (sgD e.1), some (sgD f.1), some (ownsD L), some (natD x)], by simp, by simp⟩, fun _ => by simp⟩
  have hge : gEq (.lst true ((e.2.filter fun x => decide (x ∈ f.2)).map natD)) (.lst true []) = some (.bl (!hangB L e.1 f.1)) := by
    have := eq_map (o := true) (o' := true) (xs := e.2.filter fun x => decide (x ∈ f.2)) (ys := []) eqd_natD (fun _ _ => sh_int) fun _ _ => sh_int
    rw [List.map_nil] at this
    rw [this]
    congr 2
    unfold hangB
    rw [ow_mem H.rise he, ow_mem H.rise hf, Bool.eq_iff_iff, decide_eq_true_eq, List.filter_eq_nil_iff, Bool.not_eq_true', List.any_eq_false]
  have hs0 : 0 ≤ sizeLine := Nat.zero_le _
  unfold m__law_are_free; rw [semOf_ap]; unfold b__law_are_free
  by_cases q : e.1 = f.1
  · have hq := hself q
    have hq' : hangB L f.1 f.1 = true := by rwa [q] at hq
    simp [dict_spec H, sgD, q, hq]
    exact hq'
  · have hq : ¬ sg e.1 = sg f.1 := fun z => q (sg_inj.mp z)
    unfold sgD at lc
    simp [dict_spec H, sgD, hq, lc, hge, hs0]
end
end M
namespace Hap
open PySem PySem.Spec PyProof.Rows L2
variable [TabC]
/-- what is asked of a kind of keys -/
structure SetKind {P : Program} {w : World} {κ : Type} [DecidableEq κ] (knd : HeapKind P w κ) : Prop where
  cls : ∀ {A : Around} {E : Value → Shared → Prop} {s : Shared} {k : κ} {b : Addr} {Q : Bool → Shared → Prop}, knd.is s.heap k b → Q false s → wpAny (model P w) A (ofAClassStatement 8 (.ref b)) Q E s
  val : ∀ {A : Around} {E : Value → Shared → Prop} {s : Shared} {k : κ} {b : Addr} (Q : Bool → Shared → Prop), knd.is s.heap k b → (∀ c, Q c s) → wpAny (model P w) A (hashByValue 8 (.ref b)) Q E s
  same : ∀ {h h' : Heap} {k : κ} {a b : Addr} {o : Obj} {es : Array (Int × Value)} {ep : Nat} {t : SetTable}, knd.is h k b → h.get? a = some o → o.data = .set es ep t → Heap.SameBut a h h' → knd.is h' k b
  keep : ∀ {h h' : Heap} {k : κ} {b : Addr}, knd.is h k b → (∀ c o, h.get? c = some o → h'.get? c = some o) → knd.is h' k b
section
variable {P : Program} {w : World} {κ : Type} [DecidableEq κ] {knd : HeapKind P w κ} (ok : SetKind knd) {A : Around} {E : Value → Shared → Prop} {s : Shared}
include ok
/-- a search among tuples shows nothing -/
theorem seen_N {k : κ} {b : Addr} {Q : Bool → Shared → Prop} (kk1 : knd.is s.heap k b) {ys : List Value} (hy : ∀ y ∈ ys, ∃ k' c, y = Value.ref c ∧ knd.is s.heap k' c) (h : Q false s) :
    wpAny (model P w) A (searchCouldBeSeen (.ref b) ys) Q E s := by
  unfold searchCouldBeSeen
  refine wpAny_bind ?_
  refine wpAny_forIn_list _ (fun rest r s' => r.1 = none ∧ s' = s ∧ ∀ y ∈ rest, ∃ k' c, y = Value.ref c ∧ knd.is s.heap k' c) _ ?_ ?_ _ _ ⟨rfl, rfl, hy⟩
  · rintro v rest r s' ⟨r0, rfl, all1⟩
    obtain ⟨k', c, rfl, hc⟩ := all1 v List.mem_cons_self
    have rest' : ∀ y ∈ rest, ∃ k' c, y = Value.ref c ∧ knd.is s'.heap k' c := fun u hu' => all1 u (List.mem_cons_of_mem _ hu')
    dsimp only
    by_cases hv : (b == c || (carriedByValue (.ref b) && carriedByValue (.ref c))) = true
    · refine wp_if_pos hv ?_
      exact wpAny_pure ⟨rfl, rfl, rest'⟩
    · refine wp_if_neg hv ?_
      refine wpAny_bind (knd.quiet kk1 ?_)
      simp only [Bool.not_true, Bool.false_eq_true, if_false]
      refine wpAny_bind (knd.quiet hc ?_)
      simp only [Bool.not_true, Bool.false_eq_true, if_false]
      refine wpAny_bind (ok.cls kk1 ?_)
      simp only [Bool.false_eq_true, if_false]
      refine wpAny_bind (ok.cls hc ?_)
      simp only [Bool.false_eq_true, if_false]
      exact wpAny_pure ⟨rfl, rfl, rest'⟩
  · rintro ⟨r1, r2⟩ s' ⟨r0, rfl, _⟩
    simp only at r0
    subst r0
    exact wpAny_pure h
def rowsN (knd : HeapKind P w κ) (L : List (Addr × κ)) : List (Int × Value) := L.map fun p => (knd.hash p.2, Value.ref p.1)
structure SetNR (knd : HeapKind P w κ) (h : Heap) (a : Addr) (L : List (Addr × κ)) (es : Array (Int × Value)) (ep : Nat) (t : SetTable) : Prop where
  ob : ∃ o, h.get? a = some o ∧ o.ExactSet ∧ o.data = .set es ep t
  rows : es.toList = rowsN knd L
  tab : TabOk t (L.map fun p => knd.hash p.2)
  nd : (L.map (·.2)).Nodup
  tup : ∀ p ∈ L, knd.is h p.2 p.1
  led : w.params.followText "set-order" = true ∨ t.led = true
  room : L.length * 5 < t.mask * 3
  few : L.length < 64
variable {a : Addr} {L : List (Addr × κ)} {es : Array (Int × Value)} {ep : Nat} {t : SetTable}
omit ok in
theorem SetNR.size (R : SetNR knd s.heap a L es ep t) : es.size = L.length := by
  have h := congrArg List.length R.rows
  unfold rowsN at h
  rw [Array.length_toList, List.length_map] at h
  exact h
omit ok in
theorem SetNR.fits (R : SetNR knd s.heap a L es ep t) : t.fits es.size = true := by
  have h1 := R.tab.sz
  rw [List.length_map] at h1
  have h2 := R.size
  have h3 := R.room
  unfold SetTable.fits SetTable.fill
  rw [R.tab.dm, Bool.and_eq_true, beq_iff_eq, decide_eq_true_eq]
  show t.place.size = es.size ∧ t.place.size + 0 ≤ t.mask
  omega
omit ok in
theorem SetNR.entry (R : SetNR knd s.heap a L es ep t) {i : Nat} {p : Addr × κ} (h : L[i]? = some p) : es[i]? = some (knd.hash p.2, Value.ref p.1) := by
  rw [← Array.getElem?_toList, R.rows]
  unfold rowsN
  rw [List.getElem?_map, h] <;> rfl
omit ok in
theorem SetNR.gw (R : SetNR knd s.heap a L es ep t) : ¬ t.gaveWay = true := by
  unfold SetTable.gaveWay
  rw [mask_odd R.tab.mok]
  decide
omit ok in
theorem rows_putN (L : List (Addr × κ)) (p : Nat) (x : Addr) (k : κ) : rowsN knd (L.take p ++ (x, k) :: L.drop p) = (rowsN knd L).take p ++ (knd.hash k, Value.ref x) :: (rowsN knd L).drop p := by
  unfold rowsN
  rw [List.map_append, List.map_cons, List.map_take, List.map_drop]
omit ok in
theorem put_permN {α : Type} (L : List α) (p : Nat) (x : α) : (L.take p ++ x :: L.drop p).Perm (x :: L) := by
  have h : (L.take p ++ x :: L.drop p).Perm (x :: (L.take p ++ L.drop p)) := List.perm_middle
  rw [List.take_append_drop] at h
  exact h
omit ok in
theorem order_rowsN (L : List (Addr × κ)) (es : Array (Int × Value)) (order : Array Nat) (r0 : es.toList = rowsN knd L) (p1 : order.toList.Perm (List.range L.length)) :
    ∃ L2, (order.filterMap (es[·]?)).toList = rowsN knd L2 ∧ L2.Perm L ∧ (L2.map fun p => knd.hash p.2) = order.toList.map fun i => (es.map (·.1)).getD i 0 := by
  have sz1 : es.size = L.length := by
    have h := congrArg List.length r0
    unfold rowsN at h
    rw [Array.length_toList, List.length_map] at h
    exact h
  have ent : ∀ i (h : i < L.length), es[i]? = some (knd.hash (L[i]).2, Value.ref (L[i]).1) := fun i h => by
    rw [← Array.getElem?_toList, r0]
    unfold rowsN
    rw [List.getElem?_map, List.getElem?_eq_getElem h] <;> rfl
  have key : ∀ l : List Nat, (∀ i ∈ l, i < L.length) → ∃ L2 : List (Addr × κ), l.filterMap (fun i => es[i]?) = rowsN knd L2 ∧ L2 = l.filterMap (fun i => L[i]?) ∧ (L2.map fun p => knd.hash p.2) = l.map fun i => (es.map (·.1)).getD i 0 := by
    intro l
    induction l with
    | nil => intro _; exact ⟨[], rfl, rfl, rfl⟩
    | cons i l ih =>
      intro l1
      have i1 := l1 i List.mem_cons_self
      obtain ⟨L2, e1, e2, e3⟩ := ih fun j j1 => l1 j (List.mem_cons_of_mem _ j1)
      refine ⟨L[i] :: L2, ?_, ?_, ?_⟩
      · rw [List.filterMap_cons_some (ent i i1), e1] <;> rfl
      · rw [List.filterMap_cons_some (List.getElem?_eq_getElem i1), e2]
      · rw [List.map_cons, List.map_cons, e3]
        have hi2 : i < (es.map (·.1)).size := by rw [Array.size_map, sz1]; exact i1
        have e4 : (es.map (·.1)).getD i 0 = knd.hash (L[i]).2 := by
          have e5 : (es.map (·.1))[i]? = some (knd.hash (L[i]).2) := by rw [Array.getElem?_map, ent i i1] <;> rfl
          simp [Array.getD_eq_getD_getElem?, e5]
        rw [e4]
  obtain ⟨L2, e1, e2, e3⟩ := key order.toList fun i i1 => List.mem_range.mp (p1.mem_iff.mp i1)
  refine ⟨L2, by first | (rw [Array.toList_filterMap]; exact e1) | simpa using e1, ?_, e3⟩
  have h1 : L2.Perm ((List.range L.length).filterMap fun i => L[i]?) := by
    rw [e2]
    exact p1.filterMap _
  have h2 : (List.range L.length).filterMap (fun i => L[i]?) = L := by
    have key2 : ∀ n, n ≤ L.length → (List.range n).filterMap (fun i => L[i]?) = L.take n := by
      intro n
      induction n with
      | zero => intro _; rfl
      | succ n ih =>
        intro hn
        have hlt : n < L.length := hn
        rw [List.range_succ, List.filterMap_append, ih (Nat.le_of_lt hlt), List.take_succ, List.getElem?_eq_getElem hlt]
        rw [List.filterMap_cons_some (List.getElem?_eq_getElem hlt)] <;> rfl
    rw [key2 L.length (Nat.le_refl _), List.take_length]
  rw [h2] at h1
  exact h1
variable {a : Addr} {L : List (Addr × κ)} {es : Array (Int × Value)} {ep : Nat} {t : SetTable}
/-- what the set has got from the first i items -/
structure GotN (ks : List (Addr × κ)) (i : Nat) (L : List (Addr × κ)) : Prop where
  sub : ∀ p ∈ L, p ∈ ks.take i
  all : ∀ p ∈ ks.take i, p.2 ∈ L.map (·.2)
  len : L.length ≤ i
omit ok in
theorem GotN.zero (ks : List (Addr × κ)) : GotN ks 0 [] := ⟨fun p h => (by cases h), fun p h => (by simp at h), Nat.le_refl _⟩
omit ok in
theorem take_nextN {α : Type} {l : List α} {i : Nat} {x : α} (h : l[i]? = some x) : l.take (i + 1) = l.take i ++ [x] := by
  rw [List.take_succ, h] <;> rfl
omit ok in
theorem GotN.same {ks L : List (Addr × κ)} {i : Nat} {x : Addr × κ} (g : GotN ks i L) (h : ks[i]? = some x) (m1 : x.2 ∈ L.map (·.2)) : GotN ks (i + 1) L := by
  refine ⟨fun p p1 => ?_, fun p p1 => ?_, Nat.le_succ_of_le g.len⟩
  · rw [take_nextN h]
    exact List.mem_append_left _ (g.sub p p1)
  · rw [take_nextN h] at p1
    rcases List.mem_append.mp p1 with z | z
    · exact g.all p z
    · rw [List.mem_singleton.mp z]; exact m1
omit ok in
theorem GotN.more {ks L L' : List (Addr × κ)} {i : Nat} {x : Addr × κ} (g : GotN ks i L) (h : ks[i]? = some x) (pm : L'.Perm (x :: L)) : GotN ks (i + 1) L' := by
  refine ⟨fun p p1 => ?_, fun p p1 => ?_, ?_⟩
  · rw [take_nextN h]
    rcases List.mem_cons.mp (pm.mem_iff.mp p1) with e | z
    · rw [e]; exact List.mem_append_right _ (List.mem_singleton.mpr rfl)
    · exact List.mem_append_left _ (g.sub p z)
  · rw [(pm.map (·.2)).mem_iff, List.map_cons]
    rw [take_nextN h] at p1
    rcases List.mem_append.mp p1 with z | z
    · exact List.mem_cons_of_mem _ (g.all p z)
    · rw [List.mem_singleton.mp z]; exact List.mem_cons_self
  · rw [pm.length_eq, List.length_cons]
    exact Nat.succ_le_succ g.len
omit ok in
theorem SetNR.keep {h h' : Heap} {a : Addr} {L : List (Addr × κ)} {es : Array (Int × Value)} {ep : Nat} {t : SetTable} (R : SetNR knd h a L es ep t) (ha : ∀ o, h.get? a = some o → h'.get? a = some o) (ht : ∀ p ∈ L, knd.is h' p.2 p.1) : SetNR knd h' a L es ep t := by
  obtain ⟨o, oo, r⟩ := R.ob
  exact ⟨⟨o, ha o oo, r⟩, R.rows, R.tab, R.nd, ht, R.led, R.room, R.few⟩
end
end Hap
namespace Hap
open PySem PySem.Spec PyProof.Rows L2
variable [TabC]
mutual
def nkPy : NestedKey → PyData
  | .none => .none
  | .num i => .int i
  | .text x => .str x
  | .tup ks => .tuple (nkPys ks)
def nkPys : List NestedKey → List PyData
  | [] => []
  | k :: ks => nkPy k :: nkPys ks
end
mutual
def nkOf : D → Option NestedKey
  | .non => some .none
  | .int i => some (.num i)
  | .str x => some (.text x)
  | .tup ds => (nksOf ds).map .tup
  | _ => none
def nksOf : List D → Option (List NestedKey)
  | [] => some []
  | d :: ds => match nkOf d, nksOf ds with
    | some k, some ks => some (k :: ks)
    | _, _ => none
end
theorem nksOf_cons {d : D} {ds : List D} {ks : List NestedKey} (h : nksOf (d :: ds) = some ks) : ∃ k ks', ks = k :: ks' ∧ nkOf d = some k ∧ nksOf ds = some ks' := by
  rw [nksOf] at h
  cases e1 : nkOf d with
  | none => rw [e1] at h; cases h
  | some k =>
    cases e2 : nksOf ds with
    | none => rw [e1, e2] at h; cases h
    | some ks' => rw [e1, e2] at h; cases h; exact ⟨k, ks', rfl, rfl, rfl⟩
mutual
inductive NkV (K : PySem.W.Frag) (H : Hp) : NestedKey → V → Prop
  | none : NkV K H .none .non
  | num {i} : NkV K H (.num i) (.int i)
  | text {x} : NkV K H (.text x) (.str x)
  | tup {p vs ks} : SqT K H p vs → NkVs K H ks vs → NkV K H (.tup ks) (.ref p)
inductive NkVs (K : PySem.W.Frag) (H : Hp) : List NestedKey → List V → Prop
  | nil : NkVs K H [] []
  | cons {k v ks vs} : NkV K H k v → NkVs K H ks vs → NkVs K H (k :: ks) (v :: vs)
end
mutual
theorem nkV_of {z : Bool} {K : PySem.W.Frag} {P : AS} {H : Hp} {d : D} {v : V} {F : AS} {k : NestedKey} (r : Rl z K P H d v F) (h : nkOf d = some k) : NkV K H k v := by
  cases r with
  | non => rw [nkOf] at h; cases h; exact .none
  | int => rw [nkOf] at h; cases h; exact .num
  | str => rw [nkOf] at h; cases h; exact .text
  | tup e p r =>
    rename_i p0 vs ds
    rw [nkOf] at h
    cases e1 : nksOf ds with
    | none => rw [e1] at h; cases h
    | some ks => rw [e1] at h; cases h; exact .tup (.inl (.inl e)) (nkVs_of r e1)
  | bl => cases (show (none : Option NestedKey) = _ from h)
  | lstO => cases (show (none : Option NestedKey) = _ from h)
  | lstI => cases (show (none : Option NestedKey) = _ from h)
  | dctO => cases (show (none : Option NestedKey) = _ from h)
  | dctI => cases (show (none : Option NestedKey) = _ from h)
  | dcTO => cases (show (none : Option NestedKey) = _ from h)
  | dcTI => cases (show (none : Option NestedKey) = _ from h)
  | rol => cases (show (none : Option NestedKey) = _ from h)
  | gv => cases (show (none : Option NestedKey) = _ from h)
  | xn => cases (show (none : Option NestedKey) = _ from h)
  | dcNO => cases (show (none : Option NestedKey) = _ from h)
  | dcNI => cases (show (none : Option NestedKey) = _ from h)
  | clo => cases (show (none : Option NestedKey) = _ from h)
  | any => cases (show (none : Option NestedKey) = _ from h)
  | objO => cases (show (none : Option NestedKey) = _ from h)
  | objI => cases (show (none : Option NestedKey) = _ from h)
theorem nkVs_of {z : Bool} {K : PySem.W.Frag} {P : AS} {H : Hp} {ds : List D} {vs : List V} {F : AS} {ks : List NestedKey} (r : Rls z K P H ds vs F) (h : nksOf ds = some ks) : NkVs K H ks vs := by
  cases r with
  | nil => rw [nksOf] at h; cases h; exact .nil
  | cons r rs _ _ _ =>
    obtain ⟨k, ks', rfl, h1, h2⟩ := nksOf_cons h
    exact .cons (nkV_of r h1) (nkVs_of rs h2)
end
section
variable {X : Cx} {pins : List (Addr × Obj)} {σ : L2.St} {H : Hp} {s : Shared}
mutual
theorem nested_of (I : Inv X pins σ H s) : ∀ (k : NestedKey) (v : V) (u : Value), NkV X.K H k v → RelV v u → NestedIs s.heap k u ∧ Reads s.heap u (nkPy k) []
  | .none, _, _, .none, r => by cases r; exact ⟨.none, .none⟩
  | .num i, _, _, .num, r => by obtain ⟨t, rfl⟩ := r; exact ⟨.int i t, .int i t⟩
  | .text x, _, _, .text, r => by obtain ⟨t, rfl⟩ := r; exact ⟨.text x t, .str x t⟩
  | .tup ks, _, _, .tup sq rs, r => by
    cases r
    obtain ⟨its, rv, ⟨o, oo, oc, n, od⟩, _⟩ := I.tuple sq
    obtain ⟨h1, h2⟩ := nesteds_of I ks _ its rs rv
    rw [nkPy]
    exact ⟨.tup oo oc od (by simpa using h1), .tuple oo oc od (by simpa using h2)⟩
theorem nesteds_of (I : Inv X pins σ H s) : ∀ (ks : List NestedKey) (vs : List V) (us : List Value), NkVs X.K H ks vs → Vals vs us → NestedAll s.heap ks us ∧ ReadsAll s.heap us (nkPys ks) []
  | [], _, _, .nil, .nil => ⟨.nil, .nil⟩
  | k :: ks, _, _, .cons r rs, .cons q qs => by
    obtain ⟨h1, h2⟩ := nested_of I k _ _ r q
    obtain ⟨h3, h4⟩ := nesteds_of I ks _ _ rs qs
    exact ⟨.cons h1 h3, by rw [nkPys]; exact .cons h2 h4⟩
end
end
section
variable {P : Program} {w : World}
theorem nk_val {h : Heap} {k : NestedKey} {v : Value} (x : NestedIs h k v) : (∃ ks a o vs n, k = .tup ks ∧ v = .ref a ∧ h.get? a = some o ∧ o.cls = .type "tuple" ∧ o.data = .seq vs n ∧ NestedAll h ks vs.toList) ∨ (∀ n, ofAClassStatement n v = pure false) ∧ ∀ n, ∃ b, hashByValue n v = pure b := by
  cases x with
  | none => exact .inr ⟨fun n => by cases n <;> rfl, fun n => ⟨true, by cases n <;> rfl⟩⟩
  | bool => exact .inr ⟨fun n => by cases n <;> rfl, fun n => ⟨true, by cases n <;> rfl⟩⟩
  | int => exact .inr ⟨fun n => by cases n <;> rfl, fun n => ⟨true, by cases n <;> rfl⟩⟩
  | text => exact .inr ⟨fun n => by cases n <;> rfl, fun n => ⟨false, by cases n <;> rfl⟩⟩
  | tup h1 h2 h3 h4 => exact .inl ⟨_, _, _, _, _, rfl, rfl, h1, h2, h3, h4⟩
theorem all_items {h : Heap} : ∀ {ks : List NestedKey} {vs : List Value}, NestedAll h ks vs → ∀ v ∈ vs, ∃ k ∈ ks, NestedIs h k v
  | _, _, .nil, v, hv => by cases hv
  | _, _, .cons a b, v, hv => by
    rcases List.mem_cons.mp hv with rfl | hv
    · exact ⟨_, List.mem_cons_self, a⟩
    · obtain ⟨k, hk, q⟩ := all_items b v hv
      exact ⟨k, List.mem_cons_of_mem _ hk, q⟩
theorem depth_mem : ∀ {ks : List NestedKey} {k : NestedKey}, k ∈ ks → k.depth ≤ NestedKey.depthAll ks
  | k0 :: ks, k, hk => by
    simp only [NestedKey.depthAll]
    rcases List.mem_cons.mp hk with rfl | hk
    · omega
    · have := depth_mem hk
      omega
theorem cls_key : ∀ (n : Nat) (k : NestedKey) (v : Value) (s : Shared) (A : Around) (E : Value → Shared → Prop) (Q : Bool → Shared → Prop), NestedIs s.heap k v → k.depth ≤ n → Q false s → wpAny (model P w) A (ofAClassStatement n v) Q E s := by
  intro n
  induction n with
  | zero =>
    intro k v s A E Q x hd q
    rcases nk_val x with ⟨ks, a, o, vs, m, rfl, rfl, _⟩ | ⟨h, _⟩
    · simp only [NestedKey.depth] at hd
      omega
    · rw [h]; exact wpAny_pure q
  | succ n ih =>
    intro k v s A E Q x hd q
    rcases nk_val x with ⟨ks, a, o, vs, m, rfl, rfl, h1, h2, h3, h4⟩ | ⟨h, _⟩
    · have hT : s.TypeIs (.ref a) "tuple" := ⟨_, h1, h2⟩
      simp only [NestedKey.depth] at hd
      have it := all_items h4
      unfold ofAClassStatement
      refine wpAny_bind (wpAny_typeOf hT ?_)
      dsimp only
      have e : (("tuple" : String) == "tuple") = true := by decide
      simp only [e, if_true, Bool.not_true, Bool.false_eq_true, if_false]
      try refine wpAny_bind (wpAny_pure ?_)
      try simp only [Bool.not_true, Bool.false_eq_true, if_false]
      show wpAny _ _ (seqItems? (.ref a) >>= _) _ _ s
      refine wpAny_bind (wpAny_seqItems h1 h3 ?_)
      dsimp only
      refine wpAny_bind ?_
      show wpAny _ _ (forIn vs _ _) _ _ s
      rw [← Array.forIn_toList]
      refine wpAny_forIn_list _ (fun rest r s' => r.1 = none ∧ s' = s ∧ ∀ v ∈ rest, ∃ k ∈ ks, NestedIs s.heap k v) _ ?_ ?_ _ _ ⟨rfl, rfl, it⟩
      · rintro v rest r s' ⟨hr, rfl, hall⟩
        obtain ⟨k, hk, xk⟩ := hall v List.mem_cons_self
        have dk := depth_mem hk
        refine wpAny_bind (ih k v _ _ _ _ xk (by omega) ?_)
        simp only [Bool.false_eq_true, if_false]
        exact wpAny_pure ⟨rfl, rfl, fun u hu => hall u (List.mem_cons_of_mem _ hu)⟩
      · rintro ⟨r1, r2⟩ s' ⟨hr, rfl, _⟩
        simp only at hr
        subst hr
        exact wpAny_pure q
    · rw [h]; exact wpAny_pure q
theorem val_key : ∀ (n : Nat) (k : NestedKey) (v : Value) (s : Shared) (A : Around) (E : Value → Shared → Prop) (Q : Bool → Shared → Prop), NestedIs s.heap k v → (∀ c, Q c s) → wpAny (model P w) A (hashByValue n v) Q E s := by
  intro n
  induction n with
  | zero =>
    intro k v s A E Q x q
    rcases nk_val x with ⟨ks, a, o, vs, m, rfl, rfl, _⟩ | ⟨_, h⟩
    · exact wpAny_pure (q false)
    · obtain ⟨b, h⟩ := h 0
      rw [h]; exact wpAny_pure (q b)
  | succ n ih =>
    intro k v s A E Q x q
    rcases nk_val x with ⟨ks, a, o, vs, m, rfl, rfl, h1, h2, h3, h4⟩ | ⟨_, h⟩
    · have hT : s.TypeIs (.ref a) "tuple" := ⟨_, h1, h2⟩
      have it := all_items h4
      unfold hashByValue
      refine wpAny_bind (wpAny_specialOf hT PySem.F.slot_tuple_hash.lookup ?_)
      show wpAny _ _ (seqItems? (.ref a) >>= _) _ _ s
      refine wpAny_bind (wpAny_seqItems h1 h3 ?_)
      refine wpAny_bind ?_
      show wpAny _ _ (forIn vs _ _) _ _ s
      rw [← Array.forIn_toList]
      refine wpAny_forIn_list _ (fun rest r s' => r.1 = none ∧ s' = s ∧ ∀ v ∈ rest, ∃ k ∈ ks, NestedIs s.heap k v) _ ?_ ?_ _ _ ⟨rfl, rfl, it⟩
      · rintro v rest r s' ⟨hr, rfl, hall⟩
        obtain ⟨k, hk, xk⟩ := hall v List.mem_cons_self
        refine wpAny_bind (ih k v _ _ _ _ xk fun c => ?_)
        cases c with
        | true =>
          simp only [Bool.not_true, Bool.false_eq_true, if_false]
          exact wpAny_pure ⟨rfl, rfl, fun u hu => hall u (List.mem_cons_of_mem _ hu)⟩
        | false =>
          simp only [Bool.not_false, if_true]
          exact wpAny_pure (wpAny_pure (q false))
      · rintro ⟨r1, r2⟩ s' ⟨hr, rfl, _⟩
        simp only at hr
        subst hr
        exact wpAny_pure (q true)
    · obtain ⟨b, h⟩ := h (n + 1)
      rw [h]; exact wpAny_pure (q b)
theorem nestedSet : SetKind (nestedKind P w) where
  cls := fun {A E s k b Q} x q => cls_key 8 k _ s A E Q x.1 x.2 q
  val := fun {A E s k b} Q x q => val_key 8 k _ s A E Q x.1 q
  same := fun {h h' k a b o es ep t} x ho hd hs => ⟨NestedIs.at (fun c oc vs n hc dc => by
    have ne : c ≠ a := by
      rintro rfl
      obtain rfl : oc = o := Option.some.inj (hc.symm.trans ho)
      rw [hd] at dc
      exact nomatch dc
    exact (hs.2 c ne).trans hc) _ _ x.1, x.2⟩
  keep := fun {h h' k b} x hk => ⟨NestedIs.at (fun c oc vs n hc _ => hk c oc hc) _ _ x.1, x.2⟩
end
end Hap
namespace Hap
open PySem PySem.Spec PyProof.Rows L2
open PySem.W (EachIs AllAlike Sortable dataLe dataLt)
end Hap
namespace Hap
open PySem PySem.Spec PyProof.Rows L2
variable [TabC]
open PySem.W (EachIs AllAlike Sortable dataLe dataLt)
theorem vals_refs : ∀ {as : List Addr} {us : List Value}, Vals (as.map V.ref) us → us = as.map Value.ref
  | [], _, .nil => rfl
  | a :: as, _, .cons r t => by
    cases r
    rw [vals_refs t]; rfl
end Hap
namespace Hap
open PySem PySem.Spec PyProof.Rows L2
variable [TabC]
open PySem.W (EachIs)
section
variable {α : Type} [DecidableEq α]
def dist : List α → List α
  | [] => []
  | x :: xs => if x ∈ dist xs then dist xs else x :: dist xs
theorem dist_mem {k : α} : ∀ {xs : List α}, k ∈ dist xs ↔ k ∈ xs
  | [] => by simp [dist]
  | x :: xs => by
    unfold dist
    by_cases c : x ∈ dist xs
    · rw [if_pos c, List.mem_cons, dist_mem]
      exact ⟨.inr, fun z => z.elim (fun e => e ▸ dist_mem.mp c) id⟩
    · rw [if_neg c, List.mem_cons, List.mem_cons, dist_mem]
theorem dist_nodup : ∀ {xs : List α}, (dist xs).Nodup
  | [] => List.nodup_nil
  | x :: xs => by
    unfold dist
    by_cases c : x ∈ dist xs
    · rw [if_pos c]; exact dist_nodup
    · rw [if_neg c]; exact List.nodup_cons.mpr ⟨c, dist_nodup⟩
theorem dist_len {L xs : List α} (nd : L.Nodup) (m : ∀ k, k ∈ L ↔ k ∈ xs) : L.length = (dist xs).length :=
  Nat.le_antisymm (nodup_sub_len nd fun k hk => dist_mem.mpr ((m k).mp hk)) (nodup_sub_len dist_nodup fun k hk => (m k).mpr (dist_mem.mp hk))
end
def isTupK : NestedKey → Bool
  | .tup _ => true
  | _ => false
theorem nkVs_refsN {K : PySem.W.Frag} {H : Hp} : ∀ {ks : List NestedKey} {vs : List V}, NkVs K H ks vs → (∀ k ∈ ks, isTupK k = true) → ∃ as : List Addr, vs = as.map V.ref ∧ as.length = ks.length ∧ ∀ p ∈ as.zip ks, NkV K H p.2 (.ref p.1)
  | [], _, .nil, _ => ⟨[], rfl, rfl, fun p hp => by simp at hp⟩
  | k :: ks, _, .cons a b, ht => by
    obtain ⟨as, rfl, h2, h3⟩ := nkVs_refsN b fun k hk => ht k (List.mem_cons_of_mem _ hk)
    have hk := ht k List.mem_cons_self
    cases a with
    | none => cases hk
    | num => cases hk
    | text => cases hk
    | tup sq r =>
      rename_i p0 vs0 ks0
      refine ⟨p0 :: as, rfl, by rw [List.length_cons, List.length_cons, h2], fun p hp => ?_⟩
      rw [List.zip_cons_cons] at hp
      rcases List.mem_cons.mp hp with rfl | hp
      · exact .tup sq r
      · exact h3 p hp
end Hap
namespace Hap
open PySem PySem.Spec PyProof.Rows L2
variable [TabC]
open PySem.W (EachIs AllAlike Sortable dataLe dataLt)
def keyX (e : Int × Value) : Str := match e.2 with | .str k _ => k | _ => Str.empty
def GoodX (w : World) (e : Int × Value) : Prop := ∃ k tk, e.2 = Value.str k tk ∧ e.1 = hashStr w k
/-- the set of texts at a: S its members, n their number; its table rises and can be walked -/
def SetX (w : World) (h : Heap) (a : Addr) (S : Str → Bool) (n : Nat) : Prop :=
  ∃ o es ep t, h.get? a = some o ∧ o.ExactSet ∧ o.data = .set es ep t ∧ (∀ e ∈ es.toList, GoodX w e) ∧ (es.toList.map keyX).Nodup ∧ (∀ k, S k = true ↔ k ∈ es.toList.map keyX) ∧
    es.size < scanBound ∧ t.fits es.size = true ∧ es.size = n ∧ Ris t.place.toList ∧ (w.params.followText "set-order" = true ∨ t.led = true)
section
variable {P : Program} {w : World} {h h' : Heap} {a : Addr} {S : Str → Bool} {n : Nat}
theorem SetX.at (R : SetX w h a S n) (k : ∀ o, h.get? a = some o → h'.get? a = some o) : SetX w h' a S n := by
  obtain ⟨o, es, ep, t, oo, r⟩ := R
  exact ⟨o, es, ep, t, k o oo, r⟩
theorem SetX.lt (R : SetX w h a S n) : a < h.objs.size := by
  obtain ⟨o, es, ep, t, oo, r⟩ := R
  exact Heap.lt_size oo
end
end Hap
namespace Hap
open PySem PySem.Spec PyProof.Rows L2
open PySem.W (EachIs AllAlike Sortable dataLe dataLt)
end Hap
namespace Hap
open PySem PySem.Spec PyProof.Rows L2
end Hap
namespace L2
open PySem PySem.Spec PyProof.Rows
end L2
namespace Hap
open PySem PySem.Spec PyProof.Rows L2
variable [TabC]
def fD1K (fk fv : Ev → R D) : Ev → R D := fun ρ => (fk ρ).bind fun k ρ1 => (fv ρ1).bind fun d ρ2 => match keyOf k with
  | some c => .ok (.dct true [c] [frz d]) ρ2
  | none => .stk
def fD1T (fk fv : Ev → R D) : Ev → R D := fun ρ => (fk ρ).bind fun k ρ1 => (fv ρ1).bind fun d ρ2 => match keysT k with
  | some c => .ok (.dcT true [c] [frz d]) ρ2
  | none => .stk
end Hap
namespace Hap
open PySem PySem.Spec PyProof.Rows L2
variable [TabC]
section
variable {K : PySem.W.Frag} {P : AS} {H : Hp}
theorem rls_erase : ∀ {ds : List D} {vs : List V} {F : AS} (j : Nat), Rls true K P H ds vs F → Rls true K P H (ds.eraseIdx j) (vs.eraseIdx j) F
  | _, _, _, _, .nil => .nil
  | _, _, _, 0, .cons r rs s1 s2 dj => rls_mono rs (fun _ q => q) (fun _ _ e _ _ => e) s2
  | _, _, _, j + 1, .cons (F1 := G1) (F2 := G2) r rs s1 s2 dj => .cons (F1 := G1) (F2 := G2) r (rls_erase j rs) s1 s2 dj
end
def isL1 (o : Option (Option D)) (k : List D → R D) : R D := match o with
  | some (some (.lst true xs)) => k xs
  | _ => .stk
theorem isL1_cases {o : Option (Option D)} {k : List D → R D} : (∃ xs, o = some (some (.lst true xs)) ∧ isL1 o k = k xs) ∨ isL1 o k = .stk := by
  unfold isL1
  split
  · exact .inl ⟨_, rfl, rfl⟩
  · exact .inr rfl
def popD (xs : List D) (i j : Nat) (ρ : Ev) : R D := match xs[j]? with
  | some d => if isImm d = true ∧ xs.length ≤ sizeLine then .ok d (ρ.set i (some (.lst true (xs.eraseIdx j)))) else .stk
  | none => .stk
def fPop0 (i : Nat) : Ev → R D := fun ρ => isL1 ρ[i]? fun xs => popD xs i (xs.length - 1) ρ
def int1 (ds : List D) (k : Int → R D) : R D := match ds with
  | [.int n] => k n
  | _ => .stk
def natR (o : Option Nat) (k : Nat → R D) : R D := match o with
  | some j => k j
  | none => .stk
theorem int1_cases {ds : List D} {k : Int → R D} : (∃ n, ds = [.int n] ∧ int1 ds k = k n) ∨ int1 ds k = .stk := by
  unfold int1
  split
  · exact .inl ⟨_, rfl, rfl⟩
  · exact .inr rfl
def fPopA (i : Nat) (f : Ev → R (List D)) : Ev → R D := fun ρ => isL1 ρ[i]? fun _ => (f ρ).bind fun ds ρ1 => int1 ds fun n => isL1 ρ1[i]? fun xs => natR (ixN xs.length n) fun j => popD xs i j ρ1
section
variable {X : Cx} {RX : RXR} {W : WX} {P : AS} {H : Hp} {ρ : Ev} {σ : L2.St} {FE : FP}
/-- one is taken out of a slot's list -/
theorem pop_slot {xs : List D} {i j : Nat} {d : D} {ρ' : Ev} (S : Stt X.K P H ρ σ FE) (e0 : ρ[i]? = some (some (.lst true xs))) (g : popD xs i j ρ = .ok d ρ') :
    xs.length ≤ sizeLine ∧ ∃ p vs y, σ[i]? = some (some (.ref p)) ∧ H p = some (.lst vs) ∧ xs.length = vs.length ∧ vs[j]? = some y ∧ ∃ FE', Stt X.K P (upd H p (.lst (vs.eraseIdx j))) ρ' σ FE' ∧ Tmp X.K P (upd H p (.lst (vs.eraseIdx j))) FE' d y E_ ∧ Tr P H (U FE) P (upd H p (.lst (vs.eraseIdx j))) (fun b => U FE' b ∨ E_ b) := by
  unfold popD at g
  split at g
  · rename_i d0 ed
    split at g
    · rename_i imz
      obtain ⟨im, imz⟩ := imz
      cases g
      refine ⟨imz, ?_⟩
      obtain ⟨p, vs, F', ev, h1, h2, h3, h4⟩ := slot_lst S e0
      obtain ⟨y, ey, ry⟩ := rls_get h4 ed
      have nP := (S.fin i p h2).2
      have nF' : ¬ F' p := fun z => (h3 p z).2 rfl
      obtain ⟨S2, t2⟩ := slot_write (F1 := E_) (o := .lst (vs.eraseIdx j)) (d' := .lst true (xs.eraseIdx j)) S h1 .lst ev h2 (fun b z => z.elim)
        (.lstO (F' := F') upd_same (fun _ => .inl h2) (fun b z => ⟨.inl (h3 b z).1, (h3 b z).2⟩) (rls_erase j (rls_upd h4 nP nF')))
      refine ⟨p, vs, y, ev, h1, rls_len h4, ey, _, S2, ⟨rl_imm (rl_upd (F' := E_) (rl_imm ry im) nP fun z => z) im, fun _ z => z.elim⟩, ?_⟩
      exact ⟨fun b o e n => t2.frame b o e fun z => z.elim n fun w => w.elim, t2.mono, fun b z => (t2.back b z).imp id fun w => w.imp (fun u => u.elim id fun w => w.elim) id, fun b z => (t2.sub b (z.elim id fun w => w.elim)).imp (fun u => u.elim id fun w => w.elim) id, t2.alive⟩
    · cases g
  · cases g
theorem popD_cases {xs : List D} {i j : Nat} {ρ : Ev} : (∃ d ρ', popD xs i j ρ = .ok d ρ') ∨ popD xs i j ρ = .stk := by
  unfold popD
  split
  · split
    · exact .inl ⟨_, _, rfl⟩
    · exact .inr rfl
  · exact .inr rfl
theorem de_popA {e : Expr} {i : Nat} {f : Ev → R (List D)} (h : PE X e (tBM X.K "list" rPopAt (tVar i) (tA X.K RX W f))) : DE X RX W e (fPopA i f) := by
  refine pe_imp h fun σ H Q q => ?_
  obtain ⟨P, ρ, FE, S, q⟩ := q
  unfold fPopA at q
  rcases isL1_cases (o := ρ[i]?) (k := fun _ => (f ρ).bind fun ds ρ1 => int1 ds fun n => isL1 ρ1[i]? fun xs => natR (ixN xs.length n) fun j => popD xs i j ρ1) with ⟨xs0, e0, eq⟩ | eq
  · rw [eq] at q
    obtain ⟨p0, vs0, F0, ev0, h0, _, _, _⟩ := slot_lst S e0
    refine ⟨.ref p0, ev0, .inl ⟨rfl, vs0, .inl (.inl h0)⟩, P, ρ, FE, S, ?_⟩
    cases e1 : f ρ with
    | exc x ρ1 => simp only [e1, R.bind] at q; exact q
    | stk => simp only [e1, R.bind] at q
    | ok ds ρ1 =>
      simp only [e1, R.bind] at q
      intro ws P1 H1 FE1 F1 S1 T1 t1
      rcases int1_cases (ds := ds) (k := fun n => isL1 ρ1[i]? fun xs => natR (ixN xs.length n) fun j => popD xs i j ρ1) with ⟨n, rfl, eq⟩ | eq
      · rw [eq] at q
        rcases isL1_cases (o := ρ1[i]?) (k := fun xs => natR (ixN xs.length n) fun j => popD xs i j ρ1) with ⟨xs, e2, eq⟩ | eq
        · rw [eq] at q
          cases ej : ixN xs.length n with
          | none => rw [ej] at q; exact q.elim
          | some j =>
            rw [ej] at q
            unfold natR at q
            dsimp only at q
            rcases popD_cases (xs := xs) (i := i) (j := j) (ρ := ρ1) with ⟨d, ρ2, g⟩ | g
            · rw [g] at q
              obtain ⟨w, rfl, rw'⟩ := rls1 T1.rl
              rw [rl_int rw']
              obtain ⟨z, p, vs, y, ev, h1, hl, hy, FE', S2, T2, t2⟩ := pop_slot S1 e2 g
              rw [ev0] at ev; cases ev
              obtain ⟨k1, k2, k3, k4⟩ := ixN_seq ej
              have hz : sizeLine < 2 ^ 63 := by rw [sizeLine_eq]; decide
              exact ⟨p0, vs, n, j, y, rfl, rfl, h1, by omega, by omega, by rw [← hl]; exact k1, hy, q y _ _ _ _ S2 T2 (t1.less'.trans t2)⟩
            · rw [g] at q; exact q.elim
        · rw [eq] at q; exact q.elim
      · rw [eq] at q; exact q.elim
  · rw [eq] at q; exact q.elim
end
def ranD (n : Nat) : List D := (List.range n).map fun i => .int ((i : Nat) : Int)
def rgC (ds : List D) (k : Nat → R D) : R D := int1 ds fun n => if 0 ≤ n ∧ n ≤ 16777216 then k n.toNat else .stk
def fRgL (f : Ev → R D) : Ev → R D := fun ρ => (f ρ).bind fun d ρ1 => rgC [d] fun n => .ok (.lst true (ranD n)) ρ1
def fRgT (f : Ev → R D) : Ev → R D := fun ρ => (f ρ).bind fun d ρ1 => rgC [d] fun n => .ok (.tup (ranD n)) ρ1
section
variable {K : PySem.W.Frag} {P P' : AS} {H H' : Hp} {ρ : Ev} {σ : L2.St} {FE : FP}
theorem slot_writeN {i : Nat} {p : Addr} {v : V} {o u0 : HO} {d' : D} (S : Stt K P H ρ σ FE) (he : H p = some u0) (nd : Nd u0) (hv : σ[i]? = some (some v)) (hp : FE i p)
    (r : Rl true K P (upd H p o) d' v (FE i)) (no : Nd o := by constructor) :
    Stt K P (upd H p o) (ρ.set i (some d')) σ FE ∧ Tr P H (U FE) P (upd H p o) (U FE) := by
  have nP : ¬ P p := (S.fin i p hp).2
  have al : ∀ b, H b ≠ none → upd H p o b ≠ none := fun b h => by
    by_cases e : b = p
    · subst e; rw [upd_same]; simp
    · rw [upd_ne e]; exact h
  refine ⟨⟨fun b q => al b (S.pin b q), fun j b q => ⟨al b (S.fin j b q).1, (S.fin j b q).2⟩, S.dj, fun j d e => ?_, by simpa using S.len, tabs_write S.tab he nd no⟩, ⟨fun b u e n nt => ?_, fun _ q => q, fun _ q => .inl q, fun b q => .inl q, al⟩⟩
  · by_cases h : j = i
    · subst h
      have hl : j < ρ.length := by
        have := (List.getElem?_eq_some_iff.mp e).1
        simpa using this
      rw [List.getElem?_set_self hl] at e
      cases e
      exact ⟨_, hv, r⟩
    · rw [List.getElem?_set_ne (Ne.symm h)] at e
      obtain ⟨v, e1, r1⟩ := S.rel j d e
      refine ⟨v, e1, rl_mono r1 (fun _ q => q) (fun b u e q _ => ?_) fun b q => q⟩
      rw [upd_ne]
      · exact e
      · intro z; subst z
        exact (q rfl).elim nP fun w => h (S.dj _ _ _ w hp)
  · rw [upd_ne]
    · exact e
    · intro z; subst z; exact n ⟨i, hp⟩
theorem rls_atN : ∀ {ds : List D} {vs : List V} {F : AS} {k : Nat} {d0 : D}, Rls true K P H ds vs F → ds[k]? = some d0 → ∃ v' F1, vs[k]? = some v' ∧ (∀ b, F1 b → F b) ∧ Rl true K P H d0 v' F1 ∧
    ∀ (a : Addr) (o : HO) (d' : D), F1 a → ¬ P a → Rl true K P (upd H a o) d' v' F1 → Rls true K P (upd H a o) (ds.set k d') vs F
  | _, _, _, _, _, .nil, e => by simp at e
  | _, _, _, 0, _, .cons (F1 := G1) (F2 := G2) r rs s1 s2 dj, e => by
    simp at e; subst e
    exact ⟨_, G1, rfl, s1, r, fun a o d' hF nP r' => .cons (F1 := G1) (F2 := G2) r' (rls_upd rs nP fun z => dj a hF z) s1 s2 dj⟩
  | _, _, _, k + 1, _, .cons (F1 := G1) (F2 := G2) r rs s1 s2 dj, e => by
    obtain ⟨v', F1, h1, h2, h3, h4⟩ := rls_atN (k := k) rs (by simpa using e)
    exact ⟨v', F1, by simpa using h1, fun b z => s2 b (h2 b z), h3, fun a o d' hF nP r' => .cons (F1 := G1) (F2 := G2) (rl_upd r nP fun z => dj a z (h2 a hF)) (h4 a o d' hF nP r') s1 s2 dj⟩
end
/-- a list of lists, changed at two places -/
def setN (xs : List D) (n m : Int) (d : D) : Option D := (ixN xs.length n).bind fun k => match xs[k]? with
  | some (.lst true ys) => (ixN ys.length m).map fun j => .lst true (xs.set k (.lst true (ys.set j d)))
  | _ => none
def intS3 (o : Option D) (k : Int → RS) : RS := match o with
  | some (.int n) => k n
  | _ => .stk
def lstO1 (o : Option (Option D)) (k : List D → RS) : RS := match o with
  | some (some (.lst true xs)) => k xs
  | _ => .stk
def optS (o : Option D) (k : D → RS) : RS := match o with
  | some d => k d
  | none => .stk
def fSetN (i : Nat) (f : Ev → R D) (g1 g2 : Ev → Option D) : Ev → RS := fun ρ => RS.of (f ρ) fun d ρ1 => if isImm d = true then lstO1 ρ1[i]? fun xs => intS3 (g1 ρ1) fun n => intS3 (g2 ρ1) fun m => optS (setN xs n m d) fun d' => .nx (ρ1.set i (some d')) else .stk
end Hap
namespace Hap
open PySem PySem.Spec PyProof.Rows L2 PySem.W
end Hap
namespace Hap
open PySem PySem.Spec PyProof.Rows L2
local instance : TabC := noTab
section
variable {ρ : Ev} {i : Nat} {f f' : Ev → R D} {g1 g2 : Ev → Option D} {fa : Ev → R (List D)}
@[simp] theorem ap_setN : fSetN i f g1 g2 ρ = RS.of (f ρ) fun d ρ1 => if isImm d = true then lstO1 ρ1[i]? fun xs => intS3 (g1 ρ1) fun n => intS3 (g2 ρ1) fun m => optS (setN xs n m d) fun d' => .nx (ρ1.set i (some d')) else .stk := (rfl)
@[simp] theorem lstO1_s {xs : List D} {k : List D → RS} : lstO1 (some (some (.lst true xs))) k = k xs := (rfl)
@[simp] theorem intS3_s {n : Int} {k : Int → RS} : intS3 (some (.int n)) k = k n := (rfl)
@[simp] theorem optS_s {d : D} {k : D → RS} : optS (some d) k = k d := (rfl)
@[simp] theorem ap_rgL : fRgL f ρ = (f ρ).bind fun d ρ1 => rgC [d] fun n => .ok (.lst true (ranD n)) ρ1 := (rfl)
@[simp] theorem ap_rgT : fRgT f ρ = (f ρ).bind fun d ρ1 => rgC [d] fun n => .ok (.tup (ranD n)) ρ1 := (rfl)
@[simp] theorem ap_d1K : fD1K f f' ρ = (f ρ).bind fun k ρ1 => (f' ρ1).bind fun d ρ2 => match keyOf k with
  | some c => .ok (.dct true [c] [frz d]) ρ2
  | none => .stk := (rfl)
@[simp] theorem ap_d1T : fD1T f f' ρ = (f ρ).bind fun k ρ1 => (f' ρ1).bind fun d ρ2 => match keysT k with
  | some c => .ok (.dcT true [c] [frz d]) ρ2
  | none => .stk := (rfl)
@[simp] theorem ap_pop0 : fPop0 i ρ = isL1 ρ[i]? fun xs => popD xs i (xs.length - 1) ρ := (rfl)
@[simp] theorem ap_popA : fPopA i fa ρ = isL1 ρ[i]? fun _ => (fa ρ).bind fun ds ρ1 => int1 ds fun n => isL1 ρ1[i]? fun xs => natR (ixN xs.length n) fun j => popD xs i j ρ1 := (rfl)
@[simp] theorem isL1_s {xs : List D} {k : List D → R D} : isL1 (some (some (.lst true xs))) k = k xs := (rfl)
@[simp] theorem int1_s {n : Int} {k : Int → R D} : int1 [.int n] k = k n := (rfl)
end
end Hap
namespace Hap
open PySem PySem.Spec PyProof.Rows L2
variable [TabC]
def two1 (ds : List D) (k : D → D → RS) : RS := match ds with
  | [d, e] => k d e
  | _ => .stk
def RSofL (r : R (List D)) (k : List D → Ev → RS) : RS := match r with
  | .ok ds ρ => k ds ρ
  | .exc x ρ => .exc x ρ
  | .stk => .stk
def fPar (i j : Nat) (f : Ev → R (List D)) : Ev → RS := fun ρ => RSofL (f ρ) fun ds ρ1 => two1 ds fun d e => .nx ((ρ1.set i (some d)).set j (some e))
section
variable {ρ : Ev} {i j : Nat} {f : Ev → R (List D)}
omit [TabC]
@[simp] theorem ap_par : fPar i j f ρ = RSofL (f ρ) fun ds ρ1 => two1 ds fun d e => .nx ((ρ1.set i (some d)).set j (some e)) := (rfl)
@[simp] theorem ofL_ok {ds : List D} {k : List D → Ev → RS} : RSofL (.ok ds ρ) k = k ds ρ := (rfl)
@[simp] theorem two1_s {d e : D} {k : D → D → RS} : two1 [d, e] k = k d e := (rfl)
end
end Hap
namespace Hap
open PySem PySem.Spec PyProof.Rows L2
variable [TabC]
section
variable {X : Cx} {RX : RXR} {W : WX} {tg e : Expr} {x : Str} {p pos : Pos} {a : Addr} {ws : List Str}
def fItC (ws : List Str) : Ev → R (List D) := fun ρ => .ok (ws.map .str) ρ
end
section
variable {ρ : Ev} {ws : List Str} {x : Str}
omit [TabC]
@[simp] theorem ap_itC : fItC ws ρ = .ok (ws.map .str) ρ := (rfl)
end
end Hap
namespace Hap
open PySem PySem.Spec PyProof.Rows L2 PySem.W
end Hap
namespace Hap
open PySem PySem.Spec PyProof.Rows L2
variable [TabC]
def noX (r : RS) : RS := match r with
  | .exc _ _ => .stk
  | r => r
def fForK (i : Nat) (t : D → Ev → Option Ev) (g : Ev → RS) : Ev → RS := fun ρ => match ρ[i]? with
  | some (some (.dct o ks xs)) => noX (loopS (stepS t g) (ks.map keyD) (ρ.set i (some (frz (.dct o ks xs)))))
  | _ => .stk
section
variable {ρ : Ev} {i : Nat} {t : D → Ev → Option Ev} {g : Ev → RS}
def forKR (o : Option (Option D)) (i : Nat) (t : D → Ev → Option Ev) (g : Ev → RS) (ρ : Ev) : RS := match o with
  | some (some (.dct o ks xs)) => noX (loopS (stepS t g) (ks.map keyD) (ρ.set i (some (frz (.dct o ks xs)))))
  | _ => .stk
@[simp] theorem ap_forK : fForK i t g ρ = forKR ρ[i]? i t g ρ := by unfold fForK forKR; rfl
@[simp] theorem forKR_s {o : Bool} {ks : List Key} {xs : List D} : forKR (some (some (.dct o ks xs))) i t g ρ = noX (loopS (stepS t g) (ks.map keyD) (ρ.set i (some (.dct false ks (frzs xs))))) := (rfl)
@[simp] theorem noX_nx {ρ : Ev} : noX (.nx ρ) = .nx ρ := (rfl)
@[simp] theorem noX_rt {ρ : Ev} {d : D} : noX (.rt d ρ) = .rt d ρ := (rfl)
end
end Hap
namespace Hap
open PySem PySem.Spec PyProof.Rows L2
variable [TabC]
def gTL (n : Nat) (u : List D → Ev → Option Ev) : D → Ev → Option Ev := fun d ρ => match d with
  | .lst false ds => if ds.length = n then u ds ρ else none
  | _ => none
section
variable {ρ : Ev}
@[simp] theorem ap_gTL {n u} {ds : List D} : gTL n u (.lst false ds) ρ = if ds.length = n then u ds ρ else none := (rfl)
end
end Hap
namespace Hap
open PySem PySem.Spec PyProof.Rows L2
variable [TabC]
def insD (xs : List D) (ds : List D) : Option (List D) := match ds with
  | [.int n, e] => if isImm e = true ∧ 0 ≤ n ∧ n < 2 ^ 63 ∧ xs.length < sizeLine then some (xs.take n.toNat ++ [e] ++ xs.drop n.toNat) else none
  | _ => none
end Hap
namespace Hap
open PySem PySem.Spec PyProof.Rows L2
variable [TabC]
def modP (g : List D → Option (List D)) : List Int → D → Option D
  | [], d => (match d with
    | .lst true xs => (g xs).map (.lst true)
    | _ => none)
  | j :: js, d => (match d with
    | .tup ds => (ixN ds.length j).bind fun k => (ds[k]?).bind fun d0 => (modP g js d0).map fun d' => .tup (ds.set k d')
    | .lst true ds => (ixN ds.length j).bind fun k => (ds[k]?).bind fun d0 => (modP g js d0).map fun d' => .lst true (ds.set k d')
    | _ => none)
def gRev (xs : List D) : Option (List D) := some xs.reverse
def setR (o : Option D) (i : Nat) (ρ : Ev) : RS := match o with
  | some d2 => .nx (ρ.set i (some d2))
  | none => .stk
def setM (g : List D → Option (List D)) (js : List Int) (o : Option (Option D)) (i : Nat) (ρ : Ev) : RS := match o with
  | some (some d) => setR (modP g js d) i ρ
  | _ => .stk
def gEmp (xs : List D) : Option (List D) := if xs.length < sizeLine then some (xs ++ [.lst false []]) else none
/-- x[..].reverse() -/
def fRevP (i : Nat) (js : List Int) : Ev → RS := fun ρ => setM gRev js ρ[i]? i ρ
/-- x[..].append([]) -/
def fEmpP (i : Nat) (js : List Int) : Ev → RS := fun ρ => setM gEmp js ρ[i]? i ρ
section
variable {ρ : Ev} {i : Nat} {js : List Int} {d : D} {g : List D → Option (List D)}
omit [TabC]
@[simp] theorem ap_revP : fRevP i js ρ = setM gRev js ρ[i]? i ρ := (rfl)
@[simp] theorem ap_empP : fEmpP i js ρ = setM gEmp js ρ[i]? i ρ := (rfl)
@[simp] theorem setM_s : setM g js (some (some d)) i ρ = setR (modP g js d) i ρ := (rfl)
@[simp] theorem setR_s : setR (some d) i ρ = .nx (ρ.set i (some d)) := (rfl)
end
end Hap
namespace Hap
open PySem PySem.Spec PyProof.Rows L2
variable [TabC]
def fCallIOM (j : Nat) (sem : Fn) (f1 : Ev → R D) : Ev → R D := fun ρ => match ρ[j]? with
  | some (some _) => (f1 ρ).bind fun d1 ρ1 => match ρ1[j]? with
    | some (some d0) => callR (sem [d0, d1]) ρ1 fun outs => ρ1.set j (hd0 outs)
    | _ => .stk
  | _ => .stk
section
variable {ρ : Ev} {i : Nat} {f : Ev → R D} {sem : Fn}
def callM (o : Option (Option D)) (j : Nat) (sem : Fn) (d1 : D) (ρ1 : Ev) : R D := match o with
  | some (some d0) => callR (sem [d0, d1]) ρ1 fun outs => ρ1.set j (hd0 outs)
  | _ => .stk
@[simp] theorem ap_callIOM : fCallIOM i sem f ρ = isS ρ[i]? fun _ => (f ρ).bind fun d1 ρ1 => callM ρ1[i]? i sem d1 ρ1 := by unfold fCallIOM isS callM; rfl
@[simp] theorem callM_s {d0 d1 : D} : callM (some (some d0)) i sem d1 ρ = callR (sem [d0, d1]) ρ fun outs => ρ.set i (hd0 outs) := (rfl)
end
end Hap
namespace Hap
open PySem PySem.Spec PyProof.Rows L2
variable [TabC]
def rtInt (r : RF) (k : Int → Ev → RS) : RS := match r with
  | .rt (.int n) outs => k n outs
  | _ => .stk
def slD (o : Option (Option D)) (k : D → RS) : RS := match o with
  | some (some d) => k d
  | _ => .stk
def fSetNC (i : Nat) (f : Ev → R D) (g1 : Ev → Option D) (j : Nat) (sem : Fn) (g3 : Ev → Option D) : Ev → RS := fun ρ => if i = j then .stk else
  RS.of (f ρ) fun d ρ1 => if isImm d = true then lstO1 ρ1[i]? fun xs => intS3 (g1 ρ1) fun n => slD ρ1[j]? fun d0 => intS3 (g3 ρ1) fun m => rtInt (sem [d0, .int m]) fun m2 outs => optS (setN xs n m2 d) fun d' => .nx ((ρ1.set j (hd0 outs)).set i (some d')) else .stk
end Hap
namespace Hap
open PySem PySem.Spec PyProof.Rows L2
variable [TabC]
theorem Stt.hide {K : PySem.W.Frag} {P : AS} {H : Hp} {ρ : Ev} {σ : L2.St} {FE : FP} (i : Nat) (S : Stt K P H ρ σ FE) : Stt K P H (ρ.set i none) σ (fun k b => k ≠ i ∧ FE k b) := by
  refine ⟨S.pin, fun k b z => S.fin k b z.2, fun k k' b z w => S.dj k k' b z.2 w.2, fun k d e => ?_, by simpa using S.len, S.tab⟩
  by_cases h : k = i
  · subst h
    by_cases hl : k < ρ.length
    · rw [List.getElem?_set_self hl] at e; cases e
    · rw [List.getElem?_eq_none (by rw [List.length_set]; omega)] at e; cases e
  · rw [List.getElem?_set_ne (Ne.symm h)] at e
    obtain ⟨v, e1, r⟩ := S.rel k d e
    exact ⟨v, e1, rl_mono r (fun _ q => q) (fun _ _ e _ _ => e) fun b z => ⟨h, z⟩⟩
theorem Tr.widen {P P1 : AS} {H H1 : Hp} {U0 U1 U2 : AS} (t : Tr P H U0 P1 H1 U1) (h : ∀ b, U0 b → U2 b) : Tr P H U2 P1 H1 U1 :=
  ⟨fun b o e n => t.frame b o e fun z => n (h b z), t.mono, fun b z => (t.back b z).imp id (Or.imp (h b) id), fun b z => (t.sub b z).imp (h b) id, t.alive⟩
/-- what was put by comes back as it was -/
theorem Stt.unhide {K : PySem.W.Frag} {P P1 : AS} {H H1 : Hp} {ρ ρ1 : Ev} {σ : L2.St} {FE FE1 : FP} {i : Nat} {d : D} {F1 : AS} (S : Stt K P H ρ σ FE) (e : ρ[i]? = some (some d)) (S1 : Stt K P1 H1 ρ1 σ FE1) (t : Tr P H (U fun k b => k ≠ i ∧ FE k b) P1 H1 (fun b => U FE1 b ∨ F1 b)) (T : ∀ b, F1 b → H1 b ≠ none ∧ ¬ P1 b ∧ ¬ U FE1 b) :
    Stt K P1 H1 (ρ1.set i (some d)) σ (fun k b => (k = i ∧ FE i b) ∨ (k ≠ i ∧ FE1 k b)) ∧ Tr P H (U FE) P1 H1 (fun b => U (fun k b => (k = i ∧ FE i b) ∨ (k ≠ i ∧ FE1 k b)) b ∨ F1 b) ∧ (∀ b, F1 b → ¬ U (fun k b => (k = i ∧ FE i b) ∨ (k ≠ i ∧ FE1 k b)) b) ∧ ∀ b o, FE i b → H b = some o → NT o → H1 b = some o := by
  have nU : ∀ b, FE i b → ¬ U (fun k b => k ≠ i ∧ FE k b) b := fun b z ⟨k, w⟩ => w.1 (S.dj k i b w.2 z)
  have keep : ∀ b o, FE i b → H b = some o → NT o → H1 b = some o := fun b o z e n => t.frame b o e (nU b z) n
  have nP1 : ∀ b, FE i b → ¬ P1 b := fun b z w => by
    rcases t.back b w with q | q | q
    · exact (S.fin i b z).2 q
    · exact nU b z q
    · exact (S.fin i b z).1 q
  have old : ∀ b, FE i b → ¬ (U FE1 b ∨ F1 b) := fun b z w => by
    rcases t.sub b w with q | q
    · exact nU b z q
    · exact (S.fin i b z).1 q
  have sb : ∀ b, U (fun k b => k ≠ i ∧ FE k b) b → U FE b := fun b ⟨k, w⟩ => ⟨k, w.2⟩
  refine ⟨⟨S1.pin, fun k b z => ?_, fun k k' b z w => ?_, fun k d' e' => ?_, by simpa using S1.len, S1.tab⟩, ⟨fun b o e n => t.frame b o e fun z => n (sb b z), t.mono, fun b z => (t.back b z).imp id (Or.imp (sb b) id), fun b z => ?_, t.alive⟩, fun b z w => ?_, keep⟩
  · rcases z with z | z
    · exact ⟨t.alive b (S.fin i b z.2).1, nP1 b z.2⟩
    · exact S1.fin k b z.2
  · rcases z with z | z <;> rcases w with w | w
    · exact z.1.trans w.1.symm
    · exact (old b z.2 (.inl ⟨k', w.2⟩)).elim
    · exact (old b w.2 (.inl ⟨k, z.2⟩)).elim
    · exact S1.dj k k' b z.2 w.2
  · by_cases h : k = i
    · subst h
      have hl : k < ρ1.length := by
        have := (List.getElem?_eq_some_iff.mp e').1
        simpa using this
      rw [List.getElem?_set_self hl] at e'
      cases e'
      obtain ⟨v, ev, r⟩ := S.rel k d e
      refine ⟨v, ev, rl_mono r (fun b q => t.mono b q) (fun b o e2 q nt => ?_) fun b z => .inl ⟨rfl, z⟩⟩
      rcases q rfl with q | q
      · exact t.frame b o e2 (fun ⟨k', w⟩ => (S.fin k' b w.2).2 q) nt
      · exact keep b o q e2 nt
    · rw [List.getElem?_set_ne (Ne.symm h)] at e'
      obtain ⟨v, ev, r⟩ := S1.rel k d' e'
      exact ⟨v, ev, rl_mono r (fun _ q => q) (fun _ _ e _ _ => e) fun b z => .inr ⟨h, z⟩⟩
  · rcases z with ⟨k, z | z⟩ | z
    · exact .inl ⟨i, z.2⟩
    · exact (t.sub b (.inl ⟨k, z.2⟩)).imp (sb b) id
    · exact (t.sub b (.inr z)).imp (sb b) id
  · obtain ⟨k, w | w⟩ := w
    · exact old b w.2 (.inr z)
    · exact (T b z).2.2 ⟨k, w.2⟩
def atN (xs : List D) (n : Int) (k : Nat → List D → RS) : RS := match ixN xs.length n with
  | some j => (match xs[j]? with
    | some (.lst true ys) => k j ys
    | _ => .stk)
  | none => .stk
def oneI (ds : List D) (k : D → RS) : RS := match ds with
  | [d] => if isImm d = true then k d else .stk
  | _ => .stk
theorem oneI_cases {ds : List D} {k : D → RS} : (∃ d, ds = [d] ∧ isImm d = true ∧ oneI ds k = k d) ∨ oneI ds k = .stk := by
  unfold oneI
  split
  · rename_i d
    by_cases c : isImm d = true
    · exact .inl ⟨d, rfl, c, if_pos c⟩
    · exact .inr (if_neg c)
  · exact .inr rfl
def fAppN (i : Nat) (g1 : Ev → Option D) (f : Ev → R (List D)) : Ev → RS := fun ρ => lstO1 ρ[i]? fun xs => intS3 (g1 ρ) fun n => atN xs n fun j ys =>
  RS.of (f (ρ.set i none)) fun ds ρ1 => oneI ds fun d => if ys.length < sizeLine then .nx (ρ1.set i (some (.lst true (xs.set j (.lst true (ys ++ [d])))))) else .stk
section
variable {ρ : Ev} {i : Nat} {g1 : Ev → Option D} {f : Ev → R (List D)}
omit [TabC]
@[simp] theorem ap_appN : fAppN i g1 f ρ = lstO1 ρ[i]? fun xs => intS3 (g1 ρ) fun n => atN xs n fun j ys => RS.of (f (ρ.set i none)) fun ds ρ1 => oneI ds fun d => if ys.length < sizeLine then .nx (ρ1.set i (some (.lst true (xs.set j (.lst true (ys ++ [d])))))) else .stk := (rfl)
@[simp] theorem oneI_s {d : D} {k : D → RS} : oneI [d] k = if isImm d = true then k d else .stk := (rfl)
@[simp] theorem ap_setNC {j : Nat} {fv : Ev → R D} {g3 : Ev → Option D} {sem : Fn} : fSetNC i fv g1 j sem g3 ρ = if i = j then .stk else RS.of (fv ρ) fun d ρ1 => if isImm d = true then lstO1 ρ1[i]? fun xs => intS3 (g1 ρ1) fun n => slD ρ1[j]? fun d0 => intS3 (g3 ρ1) fun m => rtInt (sem [d0, .int m]) fun m2 outs => optS (setN xs n m2 d) fun d' => .nx ((ρ1.set j (hd0 outs)).set i (some d')) else .stk := (rfl)
end
end Hap
namespace Hap
open PySem PySem.Spec PyProof.Rows L2
variable [TabC]
def gAddT (d e : D) : Option D := match d, e with
  | .tup xs, .tup ys => if (isImms xs = true ∧ isImms ys = true) ∧ xs.length + ys.length ≤ sizeLine then some (.tup (xs ++ ys)) else none
  | _, _ => none
theorem vAddT {K : PySem.W.Frag} : VOp2 K (rCatA K) gAddT := by
  intro P H d e v w x Q pin r1 r2 g h
  unfold gAddT at g
  split at g
  · rename_i xs ys
    split at g
    · rename_i c
      cases g
      obtain ⟨p, vs, rfl, e1, _, rs1⟩ := tup_read r1
      obtain ⟨q, ws, rfl, e2, _, rs2⟩ := tup_read r2
      have l1 := rls_len rs1
      have l2 := rls_len rs2
      refine ⟨p, q, vs, ws, rfl, rfl, .inl (.inl e1), .inl (.inl e2), by omega, fun z => ?_, fun z z2 => ?_, fun z z2 a ha => ?_⟩
      · have : xs = [] := List.eq_nil_of_length_eq_zero (by rw [l1, z]; rfl)
        subst this
        rw [List.nil_append] at h
        exact h _ P H E_ New.refl (rl_imm r2 (by simpa only [isImm] using c.1.2 : isImm (.tup ys) = true))
      · have : ys = [] := List.eq_nil_of_length_eq_zero (by rw [l2, z2]; rfl)
        subst this
        rw [List.append_nil] at h
        exact h _ P H E_ New.refl (rl_imm r1 (by simpa only [isImm] using c.1.1))
      · obtain ⟨n, r⟩ := new_tup ha (isImms_app c.1.1 c.1.2) (rls_app rs1 rs2)
        exact h _ _ _ _ n r
    · cases g
  · cases g
theorem add_tt {xs ys : List D} : gAddT (.tup xs) (.tup ys) = if (isImms xs = true ∧ isImms ys = true) ∧ xs.length + ys.length ≤ sizeLine then some (.tup (xs ++ ys)) else none := rfl
end Hap
namespace Hap
open PySem PySem.Spec PyProof.Rows L2
def gPart (ps : List (Str × List Int)) (j : Int) (d : D) : Option D := match d with
  | .str x => (ps.lookup x).bind fun vs => (atI vs j).map D.int
  | _ => none
variable [TabC]
section
variable {ps : List (Str × List Int)} {j : Int} {x : Str}
omit [TabC]
@[simp] theorem part_s : gPart ps j (.str x) = (ps.lookup x).bind fun vs => (atI vs j).map D.int := (rfl)
end
end Hap
namespace Hap
open PySem PySem.Spec PyProof.Rows L2
variable [TabC]
def gFld (C : Addr) (f : Str) (d : D) : Option D := match d with
  | .obj _ C' ns xs => if C' = C then getK ns xs f else none
  | _ => none
def vFld (C : Addr) (f : Str) (v : Ev → Option D) : Ev → Option D := fun ρ => (v ρ).bind (gFld C f)
def objO1 (o : Option (Option D)) (C : Addr) (k : List Str → List D → RS) : RS := match o with
  | some (some (.obj true C' ns xs)) => if C' = C then k ns xs else .stk
  | _ => .stk
/-- a new attribute, of one's own -/
def fSetF (C : Addr) (f : Str) (i : Nat) (g : Ev → R D) : Ev → RS := fun ρ => RS.of (g ρ) fun d ρ1 => objO1 ρ1[i]? C fun ns xs => if f ∉ ns ∧ ns.length < 900 then .nx (ρ1.set i (some (.obj true C (ns ++ [f]) (xs ++ [d])))) else .stk
end Hap
namespace Hap
open PySem PySem.Spec PyProof.Rows L2
variable [TabC]
def setFL (f : Str) (n : Int) (d : D) : List Str → List D → Option (List D)
  | a :: ns, x :: xs => if a = f then (match x with
    | .lst true ys => (ixN ys.length n).map fun j => .lst true (ys.set j d) :: xs
    | _ => none) else (setFL f n d ns xs).map (x :: ·)
  | _, _ => none
def optL (o : Option (List D)) (k : List D → RS) : RS := match o with
  | some xs => k xs
  | none => .stk
def fSetFL (C : Addr) (f : Str) (i : Nat) (g : Ev → R D) (k : Ev → Option D) : Ev → RS := fun ρ => RS.of (g ρ) fun d ρ1 => if isImm d = true then objO1 ρ1[i]? C fun ns xs => intS3 (k ρ1) fun n => optL (setFL f n d ns xs) fun xs' => .nx (ρ1.set i (some (.obj true C ns xs'))) else .stk
end Hap
namespace Hap
open PySem PySem.Spec PyProof.Rows L2
variable [TabC]
section
variable {X : Cx} {RX : RXR} {W : WX} {k n : Nat} {f C : Addr} {fd : FuncData} {ps : List Str} {sem : Fn} {x m : Str} {p pos apos : Pos} {e o : Expr} {es : List Expr} {fa : Ev → R (List D)}
def isOb (o : Option (Option D)) (C : Addr) (m : Str) (k : R D) : R D := match o with
  | some (some (.obj _ C' ns _)) => if C' = C ∧ m ∉ ns then k else .stk
  | _ => .stk
def fMethC (C : Addr) (m : Str) (j n : Nat) (sem : Fn) (fa : Ev → R (List D)) : Ev → R D := fun ρ => isOb ρ[j]? C m (fCallIO j n sem fa ρ)
def makeR (r : RF) (ρ : Ev) : R D := match r with
  | .rt .non (some d :: _) => .ok d ρ
  | .exc x _ => .exc x ρ
  | _ => .stk
def fMakeC (C : Addr) (n : Nat) (sem : Fn) (fa : Ev → R (List D)) : Ev → R D := fun ρ => (fa ρ).bind fun ds ρ1 => if ds.length = n then makeR (sem (.obj true C [] [] :: frzs ds)) ρ1 else .stk
end
section
variable {ρ : Ev} {C : Addr} {m f : Str} {i n : Nat} {sem : Fn}
@[simp] theorem ap_fld {v : Ev → Option D} : vFld C f v ρ = (v ρ).bind (gFld C f) := (rfl)
@[simp] theorem gFld_s {o : Bool} {ns : List Str} {xs : List D} : gFld C f (.obj o C ns xs) = getK ns xs f := by show (if C = C then _ else _) = _; rw [if_pos rfl]
@[simp] theorem objO1_s {ns : List Str} {xs : List D} {k : List Str → List D → RS} : objO1 (some (some (.obj true C ns xs))) C k = k ns xs := by show (if C = C then _ else _) = _; rw [if_pos rfl]
@[simp] theorem ap_setF {g : Ev → R D} : fSetF C f i g ρ = RS.of (g ρ) fun d ρ1 => objO1 ρ1[i]? C fun ns xs => if f ∉ ns ∧ ns.length < 900 then .nx (ρ1.set i (some (.obj true C (ns ++ [f]) (xs ++ [d])))) else .stk := (rfl)
@[simp] theorem ap_setFL {g : Ev → R D} {k : Ev → Option D} : fSetFL C f i g k ρ = RS.of (g ρ) fun d ρ1 => if isImm d = true then objO1 ρ1[i]? C fun ns xs => intS3 (k ρ1) fun n => optL (setFL f n d ns xs) fun xs' => .nx (ρ1.set i (some (.obj true C ns xs'))) else .stk := (rfl)
@[simp] theorem optL_s {xs : List D} {k : List D → RS} : optL (some xs) k = k xs := (rfl)
@[simp] theorem isOb_s {o : Bool} {ns : List Str} {xs : List D} {k : R D} : isOb (some (some (.obj o C ns xs))) C m k = if m ∉ ns then k else .stk := by show (if C = C ∧ m ∉ ns then _ else _) = _; simp
@[simp] theorem ap_methC {fa : Ev → R (List D)} : fMethC C m i n sem fa ρ = isOb ρ[i]? C m (fCallIO i n sem fa ρ) := (rfl)
@[simp] theorem makeR_rt {d : D} {os : Ev} : makeR (.rt .non (some d :: os)) ρ = .ok d ρ := (rfl)
@[simp] theorem makeR_exc {x : DX} {os : Ev} : makeR (.exc x os) ρ = .exc x ρ := (rfl)
@[simp] theorem ap_makeC {fa : Ev → R (List D)} : fMakeC C n sem fa ρ = (fa ρ).bind fun ds ρ1 => if ds.length = n then makeR (sem (.obj true C [] [] :: frzs ds)) ρ1 else .stk := (rfl)
@[simp] theorem frz_obj {o : Bool} {ns : List Str} {xs : List D} : frz (.obj o C ns xs) = .obj false C ns (frzs xs) := (rfl)
@[simp] theorem imm_objO {ns : List Str} {xs : List D} : isImm (.obj true C ns xs) = false := (rfl)
end
end Hap
namespace Hap
open PySem PySem.Spec PyProof.Rows L2
variable [TabC]
theorem memK_false {κ : Type} [DecidableEq κ] {k : κ} {ks : List κ} (h : memK k ks = false) : k ∉ ks := by unfold memK at h; exact of_decide_eq_false h
def putO (o : Option (Option D)) (i : Nat) (e d : D) (ρ : Ev) : RS := match o with
  | some (some (.dcT true ks xs)) => (match keysT e with
    | some c => if memK c ks = false ∧ xs.length < sizeLine then .nx (ρ.set i (some (.dcT true (ks ++ [c]) (xs ++ [d])))) else .stk
    | none => .stk)
  | _ => .stk
theorem putO_cases {o : Option (Option D)} {i : Nat} {e d : D} {ρ : Ev} : (∃ ks xs c, o = some (some (.dcT true ks xs)) ∧ keysT e = some c ∧ memK c ks = false ∧ xs.length < sizeLine ∧ putO o i e d ρ = .nx (ρ.set i (some (.dcT true (ks ++ [c]) (xs ++ [d]))))) ∨ putO o i e d ρ = .stk := by
  unfold putO
  split
  · rename_i ks xs
    split
    · rename_i c ec
      by_cases h : memK c ks = false ∧ xs.length < sizeLine
      · exact .inl ⟨ks, xs, c, rfl, ec, h.1, h.2, if_pos h⟩
      · exact .inr (if_neg h)
    · exact .inr rfl
  · exact .inr rfl
def fPutO (i : Nat) (f k : Ev → R D) : Ev → RS := fun ρ => RS.of (f ρ) fun d ρ1 => isSS ρ1[i]? (RS.of (k ρ1) fun e ρ2 => putO ρ2[i]? i e d ρ2)
theorem putK_new {κ : Type} [DecidableEq κ] : ∀ {ks : List κ} {vs : List V} {c : κ} {v : V}, ks.length = vs.length → c ∉ ks → putK (ks.zip vs) c v = (ks ++ [c]).zip (vs ++ [v]) := by
  intro ks vs c v l h
  have e : ((ks.zip vs).any fun kv => decide (kv.1 = c)) = false := by
    rw [List.any_eq_false]
    intro p hp
    have := (List.of_mem_zip hp).1
    simp only [decide_eq_true_eq]
    intro z; rw [z] at this; exact h this
  unfold putK
  rw [e, List.zip_append l]
  rfl
section
variable {X : Cx} {RX : RXR} {W : WX} {kp : List Nat}
theorem ds_putO {s : Stmt} {i : Nat} {f k : Ev → R D} (h : PS X s (tAsg (tE X.K RX W f) (L2.gSub (tVar i) (tE X.K RX W k) rSetD))) : DS X RX W kp s (fPutO i f k) := by
  refine ps_imp h fun D σ H q => ?_
  obtain ⟨P, ρ, FE, S, q⟩ := q
  refine ⟨P, ρ, FE, S, ?_⟩
  unfold fPutO at q
  cases e : f ρ with
  | exc x ρ1 => simp only [e, RS.of] at q; exact fun cls dx P' H' FE' S' t r => q cls dx σ P' H' FE' S' t Kp.refl r
  | stk => simp only [e, RS.of] at q; exact q.elim
  | ok d ρ1 =>
    simp only [e, RS.of] at q
    intro v P1 H1 FE1 F1 S1 T1 t1
    unfold isSS at q
    split at q
    · rename_i d0 e0
      obtain ⟨vp, ev, _⟩ := S1.rel i _ e0
      refine ⟨vp, ev, _, ρ1, FE1, S1, ?_⟩
      cases e1 : k ρ1 with
      | exc x ρ2 => simp only [e1] at q; exact fun cls dx P' H' FE' S' t r => q cls dx σ P' H' FE' S' (t1.less'.trans t) Kp.refl r
      | stk => simp only [e1] at q; exact q.elim
      | ok ee ρ2 =>
        simp only [e1] at q
        intro w P2 H2 FE2 F2 S2 T2 t2
        obtain ⟨T1', dj⟩ := T1.step S1 t2
        rcases putO_cases (o := ρ2[i]?) (i := i) (e := ee) (d := d) (ρ := ρ2) with ⟨ks, xs, c, e3, ec, hn, hl, eq⟩ | eq
        rotate_left
        · rw [eq] at q; exact q.elim
        rw [eq] at q
        obtain ⟨p, vs, F', ev', h1, l, h2, h3, h4⟩ := slot_dcT S2 e3
        rw [ev] at ev'; cases ev'
        have nP := (S2.fin i p h2).2
        have nF' : ¬ F' p := fun z => (h3 p z).2 rfl
        have nF1 : ¬ F1 p := fun z => (T1'.own p z).2.2 ⟨i, h2⟩
        have hn : c ∉ ks := memK_false hn
        have ek := putK_new (v := v) l hn
        have r1 : Rls true X.K P2 (upd H2 p (.dT (putK (ks.zip vs) c v))) (xs ++ [d]) (vs ++ [v]) (fun b => F' b ∨ F1 b) :=
          rls_snoc (rls_upd h4 nP nF') (rl_upd T1'.rl nP nF1) (fun b z => .inl z) (fun b z => .inr z) fun b z w => (T1'.own b w).2.2 ⟨i, (h3 b z).1⟩
        obtain ⟨S3, t3⟩ := slot_write (F1 := F1) (o := .dT (putK (ks.zip vs) c v)) (d' := .dcT true (ks ++ [c]) (xs ++ [d])) S2 h1 .dT ev h2 T1'.own
          (.dcTO (F' := fun b => F' b ∨ F1 b) (by rw [upd_same]) ek (by simp [l]) (fun _ => .inl h2) (fun b z => z.elim (fun z => ⟨.inl (h3 b z).1, (h3 b z).2⟩) fun z => ⟨.inr z, fun w => nF1 (w ▸ z)⟩) r1)
        have hz : (ks.zip vs).length < sizeLine := by rw [List.length_zip, l, Nat.min_self, ← rls_len h4]; exact hl
        unfold keysT at ec
        split at ec
        · rename_i ds
          cases T2.rl with
          | tup eb pb rb =>
            rw [keysOf_rls rb ec] at eb
            refine ⟨p, _, rfl, .inr ⟨_, c, _, h1, rfl, eb, hz, rfl⟩, q σ P2 _ _ S3 (((t1.seq t2).less fun b z => ?_).trans t3) Kp.refl⟩
            exact z.elim (fun z => .inl (.inl z)) .inr
        · cases ec
    · exact q.elim
end
def posK {κ : Type} [DecidableEq κ] : List κ → κ → Option Nat
  | [], _ => none
  | k' :: ks, k => if k' = k then some 0 else (posK ks k).map (· + 1)
theorem posK_val {κ : Type} [DecidableEq κ] : ∀ {ks : List κ} {vs : List V} {c : κ} {j : Nat} {v : V}, posK ks c = some j → vs[j]? = some v → valV (ks.zip vs) c = some v
  | [], _, _, _, _, h, _ => by simp [posK] at h
  | k' :: ks, [], _, _, _, _, h => by simp at h
  | k' :: ks, u :: vs, c, j, v, h, hv => by
    unfold posK at h
    by_cases e : k' = c
    · rw [if_pos e] at h; cases h
      simp at hv; subst hv
      exact valV_pos (p := (k', u)) e
    · rw [if_neg e] at h
      cases e2 : posK ks c with
      | none => rw [e2] at h; cases h
      | some i =>
        rw [e2] at h; cases h
        exact (valV_neg (p := (k', u)) e).trans (posK_val e2 (by simpa using hv))
def dTO1 (o : Option (Option D)) (k : List (List Key) → List D → RS) : RS := match o with
  | some (some (.dcT true ks xs)) => k ks xs
  | _ => .stk
theorem dTO1_cases {o : Option (Option D)} {k : List (List Key) → List D → RS} : (∃ ks xs, o = some (some (.dcT true ks xs)) ∧ dTO1 o k = k ks xs) ∨ dTO1 o k = .stk := by
  unfold dTO1
  split
  · exact .inl ⟨_, _, rfl, rfl⟩
  · exact .inr rfl
def atK (ks : List (List Key)) (xs : List D) (o : Option D) (k : Nat → List D → RS) : RS := match o with
  | some e => (match keysT e with
    | some c => (match posK ks c with
      | some j => (match xs[j]? with
        | some (.lst true ys) => k j ys
        | _ => .stk)
      | none => .stk)
    | none => .stk)
  | none => .stk
theorem atK_cases {ks : List (List Key)} {xs : List D} {o : Option D} {k : Nat → List D → RS} : (∃ e c j ys, o = some e ∧ keysT e = some c ∧ posK ks c = some j ∧ xs[j]? = some (.lst true ys) ∧ atK ks xs o k = k j ys) ∨ atK ks xs o k = .stk := by
  unfold atK
  split
  · rename_i e
    split
    · rename_i c ec
      split
      · rename_i j ej
        split
        · rename_i ys ey; exact .inl ⟨e, c, j, ys, rfl, ec, ej, ey, rfl⟩
        · exact .inr rfl
      · exact .inr rfl
    · exact .inr rfl
  · exact .inr rfl
def fAppD (i : Nat) (g1 : Ev → Option D) (f : Ev → R (List D)) : Ev → RS := fun ρ => dTO1 ρ[i]? fun ks xs => atK ks xs (g1 ρ) fun j ys =>
  RS.of (f (ρ.set i none)) fun ds ρ1 => oneI ds fun d => if ys.length < sizeLine then .nx (ρ1.set i (some (.dcT true ks (xs.set j (.lst true (ys ++ [d])))))) else .stk
section
variable {X : Cx} {RX : RXR} {W : WX} {kp : List Nat}
theorem ds_appD {s : Stmt} {i : Nat} {f : Ev → R (List D)} {g1 : Ev → Option D} (h : PS X s (tDrop (tBM X.K "list" rAppend (tOp (rIxU X.K) (tVar i) (tV X.K g1)) (tA X.K RX W f)))) : DS X RX W kp s (fAppD i g1 f) := by
  refine ps_imp h fun D σ H q => ?_
  obtain ⟨P, ρ, FE, S, q⟩ := q
  unfold fAppD at q
  rcases dTO1_cases (o := ρ[i]?) (k := fun ks xs => atK ks xs (g1 ρ) fun j ys => RS.of (f (ρ.set i none)) fun ds ρ1 => oneI ds fun d => if ys.length < sizeLine then .nx (ρ1.set i (some (.dcT true ks (xs.set j (.lst true (ys ++ [d])))))) else .stk) with ⟨ks, xs, e0, eq⟩ | eq
  rotate_left
  · rw [eq] at q; exact q.elim
  rw [eq] at q
  rcases atK_cases (ks := ks) (xs := xs) (o := g1 ρ) (k := fun j ys => RS.of (f (ρ.set i none)) fun ds ρ1 => oneI ds fun d => if ys.length < sizeLine then .nx (ρ1.set i (some (.dcT true ks (xs.set j (.lst true (ys ++ [d])))))) else .stk) with ⟨ee, c, j, ys, e1, ec, ek, ey, eq⟩ | eq
  rotate_left
  · rw [eq] at q; exact q.elim
  rw [eq] at q
  obtain ⟨vp, ev, _⟩ := S.rel i _ e0
  refine ⟨vp, ev, P, ρ, FE, S, ?_⟩
  rw [e1]
  intro w P2 H2 n2 r2
  unfold keysT at ec
  split at ec
  rotate_left
  · cases ec
  cases r2 with
  | tup eb pb rb =>
  rw [keysOf_rls rb ec] at eb
  have S2 := n2.stt S
  obtain ⟨p, vs, F', ev', h1, l, h2, h3, h4⟩ := slot_dcT S2 e0
  rw [ev] at ev'; cases ev'
  obtain ⟨v', G1, q1, q2, q3, q4⟩ := rls_atN h4 ey
  have hval := posK_val (ks := ks) ek q1
  refine .inr ⟨p, v', rfl, hval ▸ DGet.tR (.inl h1) eb, ?_⟩
  cases q3 with
  | lstO hh0 hf0 hs0 hr0 =>
    rename_i p1 ws F4
    refine ⟨.inl ⟨rfl, ws, .inl (.inl hh0)⟩, P2, ρ.set i none, _, S2.hide i, ?_⟩
    cases e2 : f (ρ.set i none) with
    | exc x ρ1 =>
      simp only [e2, RS.of] at q
      intro cls dx P' H' FE' S' t r
      exact q cls dx σ P' H' FE' S' ((n2.tr (U0 := U FE)).less'.trans (t.widen fun b ⟨k, z⟩ => ⟨k, z.2⟩)) Kp.refl r
    | stk => simp only [e2, RS.of] at q; exact q.elim
    | ok ds ρ1 =>
      simp only [e2, RS.of] at q
      intro us P3 H3 FE3 F3 S3 T3 t3
      rcases oneI_cases (ds := ds) (k := fun d => if ys.length < sizeLine then .nx (ρ1.set i (some (.dcT true ks (xs.set j (.lst true (ys ++ [d])))))) else .stk) with ⟨d, rfl, im, eq⟩ | eq
      rotate_left
      · rw [eq] at q; exact q.elim
      rw [eq] at q
      by_cases hl : ys.length < sizeLine
      rotate_left
      · rw [if_neg hl] at q; exact q.elim
      rw [if_pos hl] at q
      obtain ⟨u, rfl, ru⟩ := rls1 T3.rl
      obtain ⟨S4, t4, T4, keep⟩ := S2.unhide e0 S3 t3 T3.own
      have hF := hf0 rfl
      have e0' : (ρ1.set i (some (.dcT true ks xs)))[i]? = some (some (.dcT true ks xs)) := by
        have hlt : i < ρ1.length := by
          have l1 := S3.len
          have l2 := S.len
          have := (List.getElem?_eq_some_iff.mp e0).1
          omega
        rw [List.getElem?_set_self hlt]
      obtain ⟨p', vs', F3', ev3, h13, l3, h23, h33, h43⟩ := slot_dcT S4 e0'
      rw [ev] at ev3; cases ev3
      have hsame : H3 p = some (.dT (ks.zip vs)) := keep p _ h2 h1 (fun _ z => nomatch z)
      have evs : vs = vs' := by
        rw [hsame] at h13
        have e9 : ks.zip vs = ks.zip vs' := HO.dT.inj (Option.some.inj h13)
        have e8 := congrArg (List.map Prod.snd) e9
        rwa [List.map_snd_zip (by omega), List.map_snd_zip (by omega)] at e8
      subst evs
      obtain ⟨v'', G3, q13, q23, q33, q43⟩ := rls_atN h43 ey
      rw [q1] at q13; cases q13
      cases q33 with
      | lstO hh hf hs hr =>
        rename_i wsx F5
        have hF5 := hf rfl
        have i5 := h33 p1 (q23 p1 hF5)
        have nP := (S4.fin i p1 i5.1).2
        have ne : p ≠ p1 := fun z => i5.2 z.symm
        have nF5 : ¬ F5 p1 := fun z => (hs p1 z).2 rfl
        have same1 : H3 p1 = some (.lst ws) := keep p1 _ (h3 p1 (q2 p1 hF)).1 hh0 (fun _ z => nomatch z)
        rw [same1] at hh; cases hh
        have Tv : Rl true X.K P3 H3 d u E_ := rl_imm (F' := E_) ru im
        have r5 : Rl true X.K P3 (upd H3 p1 (.lst (ws ++ [u]))) (.lst true (ys ++ [d])) (.ref p1) G3 :=
          .lstO (F' := F5) upd_same (fun _ => hF5) hs (rls_snoc (rls_upd hr nP nF5) (rl_upd Tv nP fun z => z) (fun _ z => z) (fun _ z => z.elim) fun b z w => w.elim)
        have r6 : Rl true X.K P3 (upd H3 p1 (.lst (ws ++ [u]))) (.dcT true ks (xs.set j (.lst true (ys ++ [d])))) (.ref p) _ :=
          .dcTO (F' := F3') (by rw [upd_ne ne]; exact hsame) rfl l (fun _ => h23) h33 (q43 p1 _ _ hF5 nP r5)
        obtain ⟨S5, t5⟩ := slot_writeN (o := .lst (ws ++ [u])) S4 same1 .lst ev i5.1 r6
        rw [List.set_set] at S5
        exact ⟨p1, ws, u, rfl, rfl, same1, by rw [← rls_len hr]; exact hl, q σ P3 _ _ S5 (((n2.tr (U0 := U FE)).less'.trans t4.less').trans t5) Kp.refl⟩
end
section
variable {ρ : Ev} {i : Nat} {g1 : Ev → Option D} {f : Ev → R (List D)} {f' k' : Ev → R D}
omit [TabC]
@[simp] theorem ap_putO : fPutO i f' k' ρ = RS.of (f' ρ) fun d ρ1 => isSS ρ1[i]? (RS.of (k' ρ1) fun e ρ2 => putO ρ2[i]? i e d ρ2) := (rfl)
@[simp] theorem ap_appD : fAppD i g1 f ρ = dTO1 ρ[i]? fun ks xs => atK ks xs (g1 ρ) fun j ys => RS.of (f (ρ.set i none)) fun ds ρ1 => oneI ds fun d => if ys.length < sizeLine then .nx (ρ1.set i (some (.dcT true ks (xs.set j (.lst true (ys ++ [d])))))) else .stk := (rfl)
@[simp] theorem dTO1_s {ks : List (List Key)} {xs : List D} {k : List (List Key) → List D → RS} : dTO1 (some (some (.dcT true ks xs))) k = k ks xs := (rfl)
theorem atK_at {ks : List (List Key)} {xs : List D} {e : D} {c : List Key} {j : Nat} {ys : List D} {k : Nat → List D → RS} (h1 : keysT e = some c) (h2 : posK ks c = some j) (h3 : xs[j]? = some (.lst true ys)) : atK ks xs (some e) k = k j ys := by
  unfold atK
  simp only [h1, h2, h3]
theorem putO_at {ks : List (List Key)} {xs : List D} {e d : D} {c : List Key} (h1 : keysT e = some c) (h2 : memK c ks = false) (h3 : xs.length < sizeLine) : putO (some (some (.dcT true ks xs))) i e d ρ = .nx (ρ.set i (some (.dcT true (ks ++ [c]) (xs ++ [d])))) := by
  unfold putO
  simp only [h1]
  rw [if_pos ⟨h2, h3⟩]
end
abbrev rLenTR : List V → Hp → VK → Prop := fun xs H Q => ∃ (a : Addr) (kvs : List (List Key × V)), xs = [.ref a] ∧ Rd H a (.dT kvs) ∧ Q (.int ((kvs.length : Nat) : Int)) H
theorem call_lenT {X : Cx} : CallR X (.builtin "len") rLenTR := by
  intro pins s σ H xs us Q I r h
  obtain ⟨p, kvs, rfl, hp, q⟩ := h
  obtain ⟨u, rfl, rx⟩ := vals1 r
  obtain rfl : u = .ref p := rx
  obtain ⟨z, hd, ys, rel, dd⟩ := dt_rd I.hok hp
  have hl : kvs.length = ys.length := Paired.length rel
  refine call_len_dictH hd dd (by rw [← hl]; rw [sizeLine_eq] at z; omega) ?_
  rw [← hl]
  exact ⟨.int ((kvs.length : Nat) : Int), H, I.tok _, ⟨_, rfl⟩, q⟩
def gLenT (ds : List D) : Option D := match ds with
  | [.dcT _ ks _] => some (.int ks.length)
  | _ => none
theorem vLenT {K : PySem.W.Frag} : VOpN K rLenTR gLenT := by
  intro P H ds vs x Q pin rs g h
  unfold gLenT at g
  split at g
  · obtain ⟨v, rfl, r⟩ := rls1 rs
    cases g
    obtain ⟨p, vs, rfl, e, l, r2⟩ := dcT_read r
    refine ⟨p, _, rfl, e, ?_⟩
    rw [List.length_zip, ← l, Nat.min_self]
    exact h _ P H E_ New.refl .int
  · cases g
@[simp] theorem lenT_d {o : Bool} {ks : List (List Key)} {xs : List D} : gLenT [.dcT o ks xs] = some (.int ks.length) := (rfl)
end Hap
namespace Hap
open PySem PySem.Spec PyProof.Rows L2
variable [TabC]
def keyT (k : List Key) : D := .tup (k.map keyD)
def iKeyT (i : Nat) : Ev → R (List D) := fun ρ => match ρ[i]? with
  | some (some (.dcT false ks _)) => .ok (ks.map keyT) ρ
  | _ => .stk
section
variable {ρ : Ev} {i : Nat}
def keyRT (o : Option (Option D)) (ρ : Ev) : R (List D) := match o with
  | some (some (.dcT false ks _)) => .ok (ks.map keyT) ρ
  | _ => .stk
@[simp] theorem ap_keyT : iKeyT i ρ = keyRT ρ[i]? ρ := by unfold iKeyT keyRT; rfl
@[simp] theorem keyRT_s {ks : List (List Key)} {xs : List D} : keyRT (some (some (.dcT false ks xs))) ρ = .ok (ks.map keyT) ρ := (rfl)
end
def fForKT (i : Nat) (t : D → Ev → Option Ev) (g : Ev → RS) : Ev → RS := fun ρ => match ρ[i]? with
  | some (some (.dcT o ks xs)) => noX (loopS (stepS t g) (ks.map keyT) (ρ.set i (some (frz (.dcT o ks xs)))))
  | _ => .stk
section
variable {ρ : Ev} {i : Nat} {t : D → Ev → Option Ev} {g : Ev → RS}
def forKRT (o : Option (Option D)) (i : Nat) (t : D → Ev → Option Ev) (g : Ev → RS) (ρ : Ev) : RS := match o with
  | some (some (.dcT o ks xs)) => noX (loopS (stepS t g) (ks.map keyT) (ρ.set i (some (frz (.dcT o ks xs)))))
  | _ => .stk
@[simp] theorem ap_forKT : fForKT i t g ρ = forKRT ρ[i]? i t g ρ := by unfold fForKT forKRT; rfl
@[simp] theorem forKR_sT {o : Bool} {ks : List (List Key)} {xs : List D} : forKRT (some (some (.dcT o ks xs))) i t g ρ = noX (loopS (stepS t g) (ks.map keyT) (ρ.set i (some (.dcT false ks (frzs xs))))) := (rfl)
end
end Hap
namespace Hap
open PySem PySem.Spec PyProof.Rows L2
end Hap
namespace L2
open PySem PySem.Spec PyProof.Rows
end L2
namespace Hap
open PySem PySem.Spec PyProof.Rows L2
end Hap
namespace Hap
open PySem PySem.Spec PyProof.Rows L2
variable [TabC]
def apG (sem : Fn) (ds : List D) (ρ1 : Ev) : R D := match ds with
  | [d0, d1] => callR (sem [frz d0, d1]) ρ1 fun _ => ρ1
  | _ => .stk
def fCallG (sem : Fn) (fa : Ev → R (List D)) : Ev → R D := fun ρ => (fa ρ).bind fun ds ρ1 => apG sem ds ρ1
theorem apG_cases {sem : Fn} {ds : List D} {ρ1 : Ev} : (∃ d0 d1, ds = [d0, d1] ∧ apG sem ds ρ1 = callR (sem [frz d0, d1]) ρ1 fun _ => ρ1) ∨ apG sem ds ρ1 = .stk := by
  unfold apG
  split
  · exact .inl ⟨_, _, rfl, rfl⟩
  · exact .inr rfl
theorem pe_callS0 {X : Cx} {CX : CXT} {k : Nat} {f : Addr} {fd : FuncData} {ps : List Str} {sp : Sp} {E : L2.St → XK} {x : Str} {p pos : Pos} (F : FnOk X.prog X.w X.K X.mg X.base CX k f fd ps sp) (hr : Room k X.A) (hg : Gl X x) (hm : X.mg x = some (.ref f)) (hk : PySem.W.keepIn X.K (.ref f) = true) (hb : Binds X.K fd ps []) (hx : ∀ σ, PassesAt CX X σ (E σ))
    (hdb : (x == ("__debug__" : Str)) = false := by decide) : PE X (.Call (.Name x p) [] [] pos) (fun σ H Q => sp [] H Q (E σ)) := by
  refine ⟨fun pins s σ H Q I h => ?_⟩
  refine wpAny_Call_Name_kw (ld_glob I hg hm ?_ hdb)
  exact PySem.W.callWith_K0 I.kIn hk (run_fnS (us := []) F hr hb (hx σ) I .nil h)
section
variable {X : Cx} {RX : RXR} {W : WX} {k n : Nat} {f : Addr} {fd : FuncData} {ps : List Str} {sem : Fn} {x : Str} {p pos : Pos} {e : Expr} {es : List Expr} {fa : Ev → R (List D)}
theorem de_callG (F : FnOk X.prog X.w X.K X.mg X.base (L2N.CX X.prog X.w) k f fd ps (spD X.K RX [false, true] sem)) (hr : Room k X.A) (hg : Gl X x) (hm : X.mg x = some (.ref f)) (hk : PySem.W.keepIn X.K (.ref f) = true) (hb : Binds X.K fd ps []) (tk : L2N.Takes X W)
    (ha : DA X RX W (e :: es) fa) (hdb : (x == ("__debug__" : Str)) = false := by decide)
    (he : starEach (e :: es) X.env = (false, eval e X.env) :: starEach es X.env := by rfl) (hpl : (backTo pos (starEach es X.env)).any (·.1) = false := by rfl) : DE X RX W (.Call (.Name x p) (e :: es) [] pos) (fCallG sem fa) := by
  refine pe_imp (pe_callS F hr hg hm hk hb (fun σ => L2N.passAt tk σ) ha hdb he hpl) fun σ H Q q => ?_
  obtain ⟨P, ρ, FE, S, q⟩ := q
  refine ⟨P, ρ, FE, S, ?_⟩
  unfold fCallG at q
  cases e1 : fa ρ with
  | exc x ρ1 => simp only [e1, R.bind] at q; exact q
  | stk => simp only [e1, R.bind] at q
  | ok ds ρ1 =>
    simp only [e1, R.bind] at q
    intro vs P1 H1 FE1 F1 S1 T1 t1
    rcases apG_cases (sem := sem) (ds := ds) (ρ1 := ρ1) with ⟨d0, d1, rfl, eap⟩ | eap
    · rw [eap] at q
      obtain ⟨Trl, Town⟩ := T1
      cases Trl with
      | cons r rs s1 s2 dj =>
        rename_i v0 vs Fa Fb
        cases rs with
        | cons r1 rs1 s3 s4 dj1 =>
          rename_i v1 vs Fc Fd
          cases rs1
          have Sc := S1.give (F := Fa) fun b z => ⟨(Town b (s1 b z)).1, (Town b (s1 b z)).2.2⟩
          have nE : ∀ b, U (fun i b => i = 1 ∧ Fb b) b → Fb b := fun b ⟨_, z⟩ => z.2
          have Stc : Stt X.K (fun b => P1 b ∨ Fa b) H1 ([frz d0, d1].map some) ([v0, v1].map some) (fun i b => i = 1 ∧ Fb b) := by
            refine ⟨Sc.pin, fun i b z => ⟨(Town b (s2 b z.2)).1, fun w => w.elim (Town b (s2 b z.2)).2.1 fun w => dj b w z.2⟩, fun i i' b z w => z.1.trans w.1.symm, fun i d e2 => ?_, rfl, Sc.tab⟩
            match i, e2 with
            | 0, e2 =>
              simp only [List.map_cons, List.getElem?_cons_zero] at e2 ⊢
              cases e2
              exact ⟨v0, rfl, rl_mono (rl_frz (z := true) (F' := E_) r (fun b z => Or.inl z) fun b z => Or.inr z) (fun _ q => q) (fun _ _ e _ _ => e) fun b z => z.elim⟩
            | 1, e2 =>
              simp only [List.map_cons, List.getElem?_cons_succ, List.getElem?_cons_zero] at e2 ⊢
              cases e2
              exact ⟨v1, rfl, rl_mono r1 (fun _ q => .inl q) (fun _ _ e _ _ => e) fun b z => by first | exact ⟨rfl, s3 b z⟩ | exact ⟨trivial, s3 b z⟩⟩
            | i + 2, e2 => simp at e2
          have t1' : Tr P H (U FE) (fun b => P1 b ∨ Fa b) H1 (fun b => Fb b ∨ U FE1 b) := by
            refine (Tr.give (U1 := fun b => Fb b ∨ U FE1 b) (F := Fa) (t1.less fun b z => ?_))
            rcases z with (z | z) | z
            · exact .inr (s2 b z)
            · exact .inl z
            · exact .inr (s1 b z)
          have after : ∀ {P2 : AS} {H2 : Hp} {FA' : FP} {F2 : AS}, (∀ b, P2 b → H2 b ≠ none) → TAB P2 H2 → Tr (fun b => P1 b ∨ Fa b) H1 (U fun i b => i = 1 ∧ Fb b) P2 H2 (fun b => U FA' b ∨ F2 b) →
              Stt X.K P2 H2 ρ1 σ FE1 ∧ Tr P H (U FE) P2 H2 (fun b => U FE1 b ∨ F2 b) ∧ ∀ b, F2 b → ¬ U FE1 b := by
            intro P2 H2 FA' F2 pin2 tab2 t2
            refine ⟨⟨pin2, fun i b z => ?_, S1.dj, fun i d e2 => ?_, S1.len, tab2⟩, ?_, fun b z ⟨i, w⟩ => ?_⟩
            · obtain ⟨h1, h2⟩ := Sc.fin i b z
              refine ⟨t2.alive b h1, fun w => ?_⟩
              rcases t2.back b w with w | w | w
              · exact h2 w
              · exact (Town b (s2 b (nE b w))).2.2 ⟨i, z⟩
              · exact h1 w
            · obtain ⟨v, e4, r'⟩ := Sc.rel i d e2
              refine ⟨v, e4, rl_mono r' t2.mono (fun b o e q => t2.frame b o e fun z => ?_) fun b z => z⟩
              rcases q rfl with q | q
              · exact (Stc.fin 1 b ⟨rfl, nE b z⟩).2 q
              · exact (Town b (s2 b (nE b z))).2.2 ⟨i, q⟩
            · refine (Tr.seq (U1 := Fb) (F1 := U FE1) (U2 := F2) t1' ⟨fun b o e n => t2.frame b o e fun z => n (nE b z), t2.mono, fun b z => (t2.back b z).imp id fun w => w.imp (nE b) id, fun b z => (t2.sub b (.inr z)).imp (nE b) id, t2.alive⟩).less fun b z => z.symm
            · rcases t2.sub b (.inr z) with q | q
              · exact (Town b (s2 b (nE b q))).2.2 ⟨i, w⟩
              · exact (Sc.fin i b w).1 q
          refine ⟨rfl, fun b => P1 b ∨ Fa b, [frz d0, d1], _, Stc, fun i hi b z => ?_, ?_⟩
          · rw [z.1] at hi; exact hi rfl
          · cases e2 : sem [frz d0, d1] with
            | stk => simp only [e2, callR] at q
            | rt d outs =>
              simp only [e2, callR] at q
              intro v P2 H2 FA' F2 S2 T2 t2
              obtain ⟨A1, A2, A3⟩ := after S2.pin S2.tab t2
              exact q v P2 H2 _ F2 A1 ⟨T2.rl, fun b z => ⟨(T2.own b z).1, (T2.own b z).2.1, A3 b z⟩⟩ A2
            | exc xx outs =>
              simp only [e2, callR] at q
              intro cls dx P2 H2 FA' S2 t2 r
              obtain ⟨A1, A2, A3⟩ := after (F2 := E_) S2.pin S2.tab (t2.less fun b z => z.elim id False.elim)
              exact q cls dx P2 H2 _ A1 A2.less' r
    · rw [eap] at q; exact q.elim
theorem de_callGC {j : Nat} (C : Cal X.prog X.w X.K X.mg X.base RX x j [false, true] sem) (hr : Room k X.A) (hj : j ≤ k) (hg : Gl X x) (tk : L2N.Takes X W) (ha : DA X RX W (e :: es) fa) (hdb : (x == ("__debug__" : Str)) = false := by decide)
    (he : starEach (e :: es) X.env = (false, eval e X.env) :: starEach es X.env := by rfl) (hpl : (backTo pos (starEach es X.env)).any (·.1) = false := by rfl) : DE X RX W (.Call (.Name x p) (e :: es) [] pos) (fCallG sem fa) := by
  obtain ⟨f, fd, ps, F, hm, hk, hb⟩ := C.ex
  exact de_callG F (hr.mono hj) hg hm hk hb tk ha hdb he hpl
/-- f() -/
def fCall0 (sem : Fn) : Ev → R D := fun ρ => callR (sem []) ρ fun _ => ρ
theorem de_call0 (F : FnOk X.prog X.w X.K X.mg X.base (L2N.CX X.prog X.w) k f fd ps (spD X.K RX [] sem)) (hr : Room k X.A) (hg : Gl X x) (hm : X.mg x = some (.ref f)) (hk : PySem.W.keepIn X.K (.ref f) = true) (hb : Binds X.K fd ps []) (tk : L2N.Takes X W)
    (hdb : (x == ("__debug__" : Str)) = false := by decide) : DE X RX W (.Call (.Name x p) [] [] pos) (fCall0 sem) := by
  refine pe_imp (pe_callS0 F hr hg hm hk hb (fun σ => L2N.passAt tk σ) hdb) fun σ H Q q => ?_
  obtain ⟨P, ρ, FE, S, q⟩ := q
  unfold fCall0 at q
  refine ⟨rfl, P, [], fun _ => E_, ⟨S.pin, fun i b z => z.elim, fun i j b z => z.elim, fun i d e2 => by simp at e2, rfl, S.tab⟩, fun i _ b z => z.elim, ?_⟩
  cases e2 : sem [] with
  | stk => simp only [e2, callR] at q
  | rt d outs =>
    simp only [e2, callR] at q
    intro v P2 H2 FA' F2 S2 T2 t2
    have n2 : New P H P2 H2 F2 := ⟨fun b o e => t2.frame b o e fun ⟨_, z⟩ => z, t2.alive, fun _ => S2.tab, t2.mono, fun b z => (t2.back b z).imp id fun w => ⟨w.elim (fun ⟨_, z⟩ => z.elim) id, S2.pin b z⟩, fun b z => ⟨(t2.sub b (.inr z)).elim (fun ⟨_, z⟩ => z.elim) id, (T2.own b z).1, (T2.own b z).2.1⟩⟩
    exact q v P2 H2 FE F2 (n2.stt S) (n2.tmp S T2.rl) n2.tr
  | exc xx outs =>
    simp only [e2, callR] at q
    intro cls dx P2 H2 FA' S2 t2 r
    have n2 : New P H P2 H2 E_ := ⟨fun b o e => t2.frame b o e fun ⟨_, z⟩ => z, t2.alive, fun _ => S2.tab, t2.mono, fun b z => (t2.back b z).imp id fun w => ⟨w.elim (fun ⟨_, z⟩ => z.elim) id, S2.pin b z⟩, fun b z => z.elim⟩
    exact q cls dx P2 H2 FE (n2.stt S) n2.tr.less' r
theorem de_call0C {j : Nat} (C : Cal X.prog X.w X.K X.mg X.base RX x j [] sem) (hr : Room k X.A) (hj : j ≤ k) (hg : Gl X x) (tk : L2N.Takes X W) (hdb : (x == ("__debug__" : Str)) = false := by decide) : DE X RX W (.Call (.Name x p) [] [] pos) (fCall0 sem) := by
  obtain ⟨f, fd, ps, F, hm, hk, hb⟩ := C.ex
  exact de_call0 F (hr.mono hj) hg hm hk hb tk hdb
end
@[simp] theorem apG_c {sem : Fn} {d0 d1 : D} {ρ : Ev} : apG sem [d0, d1] ρ = callR (sem [frz d0, d1]) ρ fun _ => ρ := (rfl)
@[simp] theorem ap_callG {sem : Fn} {fa : Ev → R (List D)} {ρ : Ev} : fCallG sem fa ρ = (fa ρ).bind fun ds ρ1 => apG sem ds ρ1 := (rfl)
@[simp] theorem ap_call0 {sem : Fn} {ρ : Ev} : fCall0 sem ρ = callR (sem []) ρ fun _ => ρ := (rfl)
end Hap
namespace Hap
open PySem PySem.Spec PyProof.Rows L2
variable [TabC]
section
variable {X : Cx} {W : WX} {kp : List Nat} {CH C0 : Addr} {i : Nat} {x n : Str} {body suite : List Stmt} {b₀ : Stmt} {np pos pos' : Pos} {g : Ev → RS} {res : Str → D}
theorem ds_try1 (hs : X.stack = X.env :: X.outer) (hf : X.env.frame = some X.env.locals) (hN : X.N.Nodup) (hi : X.N[i]? = some n) (hln : X.env.kindOf n = some .local) (hc : Names X x (.ref C0)) (tk : L2N.Takes X W) (T : ETab X.K X.mg CH [C0])
    (hb : ∀ (W' : WX) (pn : List (Addr × Obj)) (xe : Value → Shared → Prop), L2N.Takes (X.tr pn xe) W' → PassesOwn (model X.prog X.w) X.A X.env xe → DSs (X.tr pn xe) (RXP [C0]) W' kp body g)
    (hsu : ∀ (a : Addr) (oe : Obj) (cls : Value) (d : Option Addr) (pn : List (Addr × Obj)), L2N.Zn cls d oe → (∃ vs, oe.data = .fields vs) → PSs (X.suite a ((a, oe) :: pn)) (b₀ :: suite) (tsW X.K [C0] i res a cls d)) :
    DS X (RXP [C0]) W kp (.Try body [.ExceptHandler (some (.Name x np)) (some n) (b₀ :: suite) pos'] [] [] pos) (fTryH res g) := by
  refine ⟨fun pins s σ H D I q => (L2N.ps_try_as (tb := fun W' => tS X.K (RXP [C0]) W' kp g) hs hf hN hi hln hc tk hb hsu).run pins s σ H D I ?_⟩
  have ln := I.len
  obtain ⟨P, ρ, FE, S, q⟩ := q
  refine ⟨P, ρ, FE, S, ?_⟩
  unfold fTryH at q
  cases e : g ρ with
  | nx ρ1 => simp only [e] at q; exact q
  | rt d ρ1 => simp only [e] at q; exact q
  | bk ρ1 => simp only [e] at q; exact q
  | ct ρ1 => simp only [e] at q; exact q
  | stk => simp only [e] at q; exact q
  | exc y ρ1 =>
    simp only [e] at q
    intro cls dx σ' P' H' FE' S' t k' r
    obtain ⟨j, C, hj, hn, rfl, hx⟩ := r
    have hj0 : j = 0 := by
      have := (List.getElem?_eq_some_iff.mp hj).1
      simp at this
      omega
    refine ⟨true, by rw [T.exm hj (j := 0) (C' := C0) rfl, hj0]; rfl, fun _ a na => ?_, fun z => by cases z⟩
    by_cases hz : y.args.isEmpty = true
    · simp only [if_pos hz] at q
      have hx' : dx = none := hx.elim (fun z => z.2) fun ⟨d, _, _, _, _, z⟩ => (z (List.isEmpty_iff.mp hz)).elim
      have hl : i < σ'.length := by
        have h1 := (List.getElem?_eq_some_iff.mp hi).1
        have h4 := k'.1
        omega
      refine ⟨List.getElem?_set_self hl, S'.tab.1, hx', j, C, y.cls, hj, hn, rfl, P', S'.pin, fun v P2 H2 n2 r2 => ?_⟩
      exact q v σ' P2 H2 FE' E_ (n2.stt S') (n2.tmp S' r2) (t.trans n2.tr) k'
    · rw [if_neg hz] at q; exact q.elim
end
section
variable {X : Cx} {CH : Addr} {cs : List Addr} {i : Nat} {a : Addr} {oe : Obj} {cls : Value} {d : Option Addr} {pn : List (Addr × Obj)}
theorem su_isV {e1 e2 : Expr} {p pos pos2 : Pos} (T : ETab X.K X.mg CH cs) (hz : L2N.Zn cls d oe) (hv : ∃ vs, oe.data = .fields vs) (hg : Gl X "isinstance") (hm : X.mg "isinstance" = none)
    (h1 : PE (X.suite a ((a, oe) :: pn)) e1 (tVar i)) (h2 : PE (X.suite a ((a, oe) :: pn)) e2 (tC (.ty "ValueError")))
    (he : starEach [e1, e2] X.env = (false, eval e1 X.env) :: starEach [e2] X.env := by rfl) (he2 : starEach [e2] X.env = (false, eval e2 X.env) :: starEach [] X.env := by rfl) (hpl : (backTo pos (starEach [e2] X.env)).any (·.1) = false := by rfl) :
    PSs (X.suite a ((a, oe) :: pn)) [.Return (some (.Call (.Name "isinstance" p) [e1, e2] [] pos)) pos2] (tsW X.K cs i (fun _ => .bl true) a cls d) := by
  refine ⟨fun pins s σ H D I h => ?_⟩
  obtain ⟨g1, g2, g3, j, C, nm, g4, g5, g6, P, g7, g8⟩ := h
  have c := T.ent C (List.mem_of_getElem? g4)
  have pe := pe_callB (X := X.suite a ((a, oe) :: pn)) (p := p) (pos := pos) (call_isE' (X := X.suite a ((a, oe) :: pn)) T c List.mem_cons_self (hz.1.trans g6) hv) hg hm boot_isinstance (pa_cons h1 (pa_cons h2 pa_nil he2) he) (by decide) (by decide) he hpl
  refine (pss_one (ps_ret (pos := pos2) pe)).run pins s σ H D I ⟨_, g1, .ty "ValueError", .type "ValueError", true, rfl, fun u r => r, T.kitV g4, .inl (hz.2.1.trans g3), ?_⟩
  exact g8 (.bl true) P H New.refl .bl
end
end Hap
namespace Hap
open PySem PySem.Spec PyProof.Rows L2
variable [TabC]
section
variable {X : Cx} {RX : RXR} {W : WX} {kp : List Nat}
def fRepl (f : Ev → R D) (y z : Str) : Ev → R D := fun ρ => (f ρ).bind fun d ρ1 => match d with
  | .str x => if x.length + (x.length + 1) * z.length ≤ 16777216 then .ok (.str (Txt.replace x y z)) ρ1 else .stk
  | _ => .stk
end
section
variable {ρ : Ev} {f : Ev → R D} {y z : Str}
def rpl (y z : Str) (d : D) (ρ1 : Ev) : R D := match d with
  | .str x => if x.length + (x.length + 1) * z.length ≤ 16777216 then .ok (.str (Txt.replace x y z)) ρ1 else .stk
  | _ => .stk
@[simp] theorem ap_repl : fRepl f y z ρ = (f ρ).bind fun d ρ1 => rpl y z d ρ1 := by unfold fRepl rpl; rfl
end
end Hap
namespace Hap
open PySem PySem.Spec PyProof.Rows L2
end Hap
namespace ND
open PySem PySem.Spec PyProof.Rows
open SeqAt
/-- the place of a key -/
def kIx (ks : List NestedKey) (k : NestedKey) : Option Nat := ks.findIdx? fun x => decide (x = k)
end ND
namespace ND
open PySem PySem.Spec PyProof.Rows
section
variable {prog : Program} {w : World} {A : Around} {E : Value → Shared → Prop} {s : Shared} {d : Addr} {ks : List NestedKey} {us vs : List Value} {k : NestedKey} {key : Value}
/-- the keys and the values behind a store -/
def putKeys (ks : List NestedKey) (k : NestedKey) : List NestedKey := if (kIx ks k).isSome = true then ks else ks ++ [k]
def putVals {α : Type} (ks : List NestedKey) (k : NestedKey) (vs : List α) (v : α) : List α := match kIx ks k with
  | some i => vs.set i v
  | none => vs ++ [v]
end
end ND
namespace ND
open PySem PySem.Spec PyProof.Rows
end ND
namespace Hap
open PySem PySem.Spec PyProof.Rows L2 ND
variable [TabC]
/-- a key of the right depth -/
def nKey (d : D) : Option NestedKey := (nkOf d).bind fun k => if k.depth ≤ 8 then some k else none
end Hap
namespace Hap
open PySem PySem.Spec PyProof.Rows L2 ND
variable [TabC]
def putN (o : D) (e d : D) : Option D := match o with
  | .dcN true ks xs => (nKey e).bind fun k => if ks.length < sizeLine then some (.dcN true (putKeys ks k) (putVals ks k xs d)) else none
  | _ => none
def putRN (o : Option (Option D)) (i : Nat) (e d : D) (ρ : Ev) : RS := match o with
  | some (some o) => (match putN o e (frz d) with
    | some o' => .nx (ρ.set i (some o'))
    | none => .stk)
  | _ => .stk
def fPutN (i : Nat) (f k : Ev → R D) : Ev → RS := fun ρ => RS.of (f ρ) fun d ρ1 => isSS ρ1[i]? (RS.of (k ρ1) fun e ρ2 => putRN ρ2[i]? i e d ρ2)
def fDNewN : Ev → R D := fun ρ => .ok (.dcN true [] []) ρ
@[simp] theorem ap_dnewN {ρ : Ev} : fDNewN ρ = .ok (.dcN true [] []) ρ := (rfl)
@[simp] theorem ap_putN {i : Nat} {f k : Ev → R D} {ρ : Ev} : fPutN i f k ρ = RS.of (f ρ) fun d ρ1 => isSS ρ1[i]? (RS.of (k ρ1) fun e ρ2 => putRN ρ2[i]? i e d ρ2) := (rfl)
end Hap
namespace L2
open PySem PySem.Spec PyProof.Rows ND Hap
end L2
namespace Hap
open PySem PySem.Spec PyProof.Rows L2 ND
end Hap
namespace L2
open PySem PySem.Spec PyProof.Rows ND Hap
end L2
namespace Hap
open PySem PySem.Spec PyProof.Rows L2 ND
end Hap
namespace Hap
open PySem PySem.Spec PyProof.Rows L2 ND
end Hap
namespace Hap
open PySem PySem.Spec PyProof.Rows L2
end Hap
namespace Hap
open PySem PySem.Spec PyProof.Rows L2
end Hap
namespace Hap
open PySem PySem.Spec PyProof.Rows L2
end Hap
namespace Hap
open PySem PySem.Spec PyProof.Rows L2
end Hap
namespace Hap
open PySem PySem.Spec PyProof.Rows L2
end Hap
namespace Hap
open PySem PySem.Spec PyProof.Rows L2
end Hap
namespace Hap
open PySem PySem.Spec PyProof.Rows L2
end Hap
namespace Hap
open PySem PySem.Spec PyProof.Rows L2
end Hap
namespace Hap
open PySem PySem.Spec PyProof.Rows L2
end Hap
namespace Hap
open PySem PySem.Spec PyProof.Rows L2
end Hap
namespace Hap
open PySem PySem.Spec PyProof.Rows L2
end Hap
namespace Hap
open PySem PySem.Spec PyProof.Rows L2
/-- what the __init__ of such a class is promised to do -/
def spF1 (K : PySem.W.Frag) (f : Str) : Sp := fun vs H Q _ => ∃ (a C : Addr) (y : V), vs = [.ref a, y] ∧ OexC K C ∧ PySem.W.findIn K (.ref C) f = some none ∧ H a = some (exo a C none) ∧
  ∀ dx, H dx = none → dx ≠ a → Q .non (upd (upd H dx (exd dx [(f, y)])) a (exo a C (some dx)))
variable [TabC]
end Hap
namespace Hap
open PySem PySem.Spec PyProof.Rows L2
end Hap
namespace Hap
open PySem PySem.Spec PyProof.Rows L2
variable [TabC]
structure Rz1 (P : Program) (w : World) (K : PySem.W.Frag) (mg : Str → Option Value) (base : Heap) (cs : List Addr) (i : Nat) (x f : Str) : Prop where
  ex : ∃ (C fI : Addr) (fd : FuncData) (ps : List Str), cs[i]? = some C ∧ excN[i]? = some x ∧ fldN x = [f] ∧ OexC K C ∧ PySem.W.findIn K (.ref C) "__init__" = some (some (.ref fI)) ∧ PySem.W.typeIn K (.ref fI) = some (.type "function") ∧
    FnOk P w K mg base CX0 1 fI fd ps (spF1 K f) ∧ Binds K fd ps [] ∧ PySem.W.findIn K (.ref C) f = some none ∧ XfC K C
section
variable {X : Cx} {cs : List Addr} {i j k0 : Nat} {a : Addr} {oe : Obj} {cls : Value} {d : Option Addr} {pn : List (Addr × Obj)} {e : Expr} {w lit f : Str} {p1 p2 p3 p4 p5 p6 p7 p8 p9 p10 p11 p12 : Pos} {kk : Nat}
theorem Rz1.fl {P : Program} {w : World} {K : PySem.W.Frag} {mg : Str → Option Value} {base : Heap} (R : Rz1 P w K mg base cs k0 lit f) : fldN lit = [f] := by
  obtain ⟨C, fI, fd, ps, h1', h2', h3', _⟩ := R.ex
  exact h3'
end
end Hap
namespace Hap
open PySem PySem.Spec PyProof.Rows L2
end Hap
namespace HotX
open PySem PySem.Spec PyProof.Rows
end HotX
namespace Hap
open PySem PySem.Spec PyProof.Rows L2 L2H HotX
end Hap
namespace Hap
open PySem PySem.Spec PyProof.Rows L2
end Hap
namespace Hap
open PySem PySem.Spec PyProof.Rows L2
variable [TabC]
def ofV : V → Option D
  | .non => some .non
  | .bl b => some (.bl b)
  | .int n => some (.int n)
  | .str s => some (.str s)
  | _ => none
/-- e.f, e at slot i -/
def vXf (i : Nat) (f : Str) (a dd : Addr) : Ev → Option D := fun ρ => match ρ[i]? with
  | some (some (.xn a' p fs)) => if a' = a ∧ p = dd then (fs.lookup f).bind ofV else none
  | _ => none
@[simp] theorem ap_xf {i : Nat} {f : Str} {a dd : Addr} {fs : List (Str × V)} {ρ : Ev} (h : ρ[i]? = some (some (.xn a dd fs))) : vXf i f a dd ρ = (fs.lookup f).bind ofV := by
  unfold vXf; rw [h]; simp
end Hap
namespace Hap
open PySem PySem.Spec PyProof.Rows L2
end Hap
namespace Hap
open PySem PySem.Spec PyProof.Rows L2
end Hap
namespace Hap
open PySem PySem.Spec PyProof.Rows L2
end Hap
namespace HotX
open PySem PySem.Spec PyProof.Rows
end HotX
namespace Hap
open PySem PySem.Spec PyProof.Rows L2 L2H HotX
end Hap
namespace HotX
open PySem PySem.Spec PyProof.Rows
open PyProof
end HotX
namespace HotX
open PySem PySem.Spec PyProof.Rows
open PyProof
open L2
theorem HotAt.lt {A : Around} {x1 : Addr} {h : Heap} (hot : HotAt A x1 h) : x1 < h.objs.size := by
  obtain ⟨_, o1, vs1, h1, _⟩ := hot
  exact Heap.lt_size h1
end HotX
namespace Hap
open PySem PySem.Spec PyProof.Rows L2 L2H HotX
end Hap
namespace Hap
open PySem PySem.Spec PyProof.Rows L2
end Hap
namespace M
open PySem PySem.Spec PyProof.Rows L2 Hap
local instance : TabC := noTab
section
variable {h : Nat} {L : List (Nat × List Nat)} {R : List Nat}
inductive Conn (L : List (Nat × List Nat)) (A : List Nat) : Nat → Nat → Prop
  | refl {a} : a ∈ A → Conn L A a a
  | step {a b c} : Conn L A a b → Hang L b c → c ∈ A → Conn L A a c
theorem Conn.mono {A B : List Nat} (hs : ∀ a ∈ A, a ∈ B) {a b : Nat} (c : Conn L A a b) : Conn L B a b := by
  induction c with
  | refl h => exact .refl (hs _ h)
  | step _ hh hc ih => exact .step ih hh (hs _ hc)
theorem Conn.mem {A : List Nat} {a b : Nat} (c : Conn L A a b) : a ∈ A ∧ b ∈ A := by
  induction c with
  | refl h => exact ⟨h, h⟩
  | step _ _ hc ih => exact ⟨ih.1, hc⟩
theorem Conn.trans {A : List Nat} {a b c : Nat} (p : Conn L A a b) (q : Conn L A b c) : Conn L A a c := by
  induction q with
  | refl _ => exact p
  | step _ hh hc ih => exact .step ih hh hc
theorem Conn.symm {A : List Nat} {a b : Nat} (p : Conn L A a b) : Conn L A b a := by
  induction p with
  | refl h => exact .refl h
  | step p hh hc ih => exact Conn.trans (.step (.refl hc) hh.symm p.mem.2) ih
/-- the letters of A in groups that hang together -/
structure Groups (L : List (Nat × List Nat)) (A : List Nat) (G : List (List Nat)) : Prop where
  nd : G.Nodup
  ne : ∀ g ∈ G, g ≠ []
  cov : ∀ a, a ∈ A ↔ ∃ g ∈ G, a ∈ g
  conn : ∀ g ∈ G, ∀ a ∈ g, ∀ b ∈ g, Conn L A a b
  sep : ∀ g ∈ G, ∀ f ∈ G, ∀ a ∈ g, ∀ b ∈ f, Hang L a b → g = f
theorem Groups.nil : Groups L [] [] := ⟨.nil, by simp, by simp, by simp, by simp⟩
def hangsOn (L : List (Nat × List Nat)) (l : Nat) (g : List Nat) : Bool := g.any fun o => hangB L l o
theorem hangsOn_iff {l : Nat} {g : List Nat} : hangsOn L l g = true ↔ ∃ o ∈ g, Hang L l o := by
  unfold hangsOn; rw [List.any_eq_true]
  exact ⟨fun ⟨o, h1, h2⟩ => ⟨o, h1, hangB_iff.mp h2⟩, fun ⟨o, h1, h2⟩ => ⟨o, h1, hangB_iff.mpr h2⟩⟩
theorem Groups.step {A : List Nat} {G : List (List Nat)} (I : Groups L A G) {l : Nat} (hl : Hang L l l) {j : List Nat} (hj : ∀ a, a ∈ j ↔ a = l ∨ ∃ g ∈ G, hangsOn L l g = true ∧ a ∈ g) : Groups L (A ++ [l]) (G.filter (fun g => !hangsOn L l g) ++ [j]) := by
  have hlj : l ∈ j := (hj l).mpr (.inl rfl)
  have mem : ∀ g, g ∈ G.filter (fun g => !hangsOn L l g) ↔ g ∈ G ∧ ¬ hangsOn L l g = true := fun g => by
    rw [List.mem_filter]; simp
  have toL : ∀ a ∈ j, Conn L (A ++ [l]) a l := fun a ha => by
    rcases (hj a).mp ha with rfl | ⟨g, hg, hh, hag⟩
    · exact .refl (by simp)
    · obtain ⟨o, ho, hlo⟩ := hangsOn_iff.mp hh
      exact .step ((I.conn g hg a hag o ho).mono fun _ h => List.mem_append_left _ h) hlo.symm (by simp)
  refine ⟨?_, ?_, ?_, ?_, ?_⟩
  · rw [List.nodup_append]
    refine ⟨I.nd.sublist List.filter_sublist, by simp, fun a ha b hb => ?_⟩
    rw [List.mem_singleton] at hb; subst hb
    rintro rfl
    exact ((mem _).mp ha).2 (hangsOn_iff.mpr ⟨l, hlj, hl⟩)
  · intro g hg
    rcases List.mem_append.mp hg with hg | hg
    · exact I.ne g ((mem g).mp hg).1
    · rw [List.mem_singleton] at hg; subst hg
      exact List.ne_nil_of_mem hlj
  · intro a
    rw [List.mem_append, List.mem_singleton, I.cov]
    constructor
    · rintro (⟨g, hg, ha⟩ | rfl)
      · by_cases c : hangsOn L l g = true
        · exact ⟨j, by simp, (hj a).mpr (.inr ⟨g, hg, c, ha⟩)⟩
        · exact ⟨g, List.mem_append_left _ ((mem g).mpr ⟨hg, c⟩), ha⟩
      · exact ⟨j, by simp, hlj⟩
    · rintro ⟨g, hg, ha⟩
      rcases List.mem_append.mp hg with hg | hg
      · exact .inl ⟨g, ((mem g).mp hg).1, ha⟩
      · rw [List.mem_singleton] at hg; subst hg
        rcases (hj a).mp ha with rfl | ⟨g, hg, _, hag⟩
        · exact .inr rfl
        · exact .inl ⟨g, hg, hag⟩
  · intro g hg a ha b hb
    rcases List.mem_append.mp hg with hg | hg
    · exact (I.conn g ((mem g).mp hg).1 a ha b hb).mono fun _ h => List.mem_append_left _ h
    · rw [List.mem_singleton] at hg; subst hg
      exact (toL a ha).trans (toL b hb).symm
  · have key : ∀ g, g ∈ G.filter (fun g => !hangsOn L l g) → ∀ a ∈ g, ∀ b ∈ j, ¬ Hang L a b := fun g hg a ha b hb hh => by
      obtain ⟨h1, h2⟩ := (mem g).mp hg
      rcases (hj b).mp hb with rfl | ⟨f, hf, hlf, hbf⟩
      · exact h2 (hangsOn_iff.mpr ⟨a, ha, hh.symm⟩)
      · have := I.sep g h1 f hf a ha b hbf hh
        subst this
        exact h2 hlf
    intro g hg f hf a ha b hb hh
    rcases List.mem_append.mp hg with hg1 | hg1
    · rcases List.mem_append.mp hf with hf1 | hf1
      · exact I.sep g ((mem g).mp hg1).1 f ((mem f).mp hf1).1 a ha b hb hh
      · rw [List.mem_singleton] at hf1
        exact (key g hg1 a ha b (hf1 ▸ hb) hh).elim
    · rw [List.mem_singleton] at hg1
      rcases List.mem_append.mp hf with hf1 | hf1
      · exact (key f hf1 b hb a (hg1 ▸ ha) hh.symm).elim
      · rw [List.mem_singleton] at hf1; rw [hf1, hg1]
theorem Groups.sub {A : List Nat} {G G' : List (List Nat)} (hself : ∀ a ∈ A, Hang L a a) (I : Groups L A G) (J : Groups L A G') {g : List Nat} (hg : g ∈ G) : ∃ g' ∈ G', ∀ a, a ∈ g ↔ a ∈ g' := by
  have into : ∀ {G G' : List (List Nat)}, Groups L A G → Groups L A G' → ∀ {g g' : List Nat} {r : Nat}, g ∈ G → g' ∈ G' → r ∈ g → r ∈ g' → ∀ a ∈ g, a ∈ g' := by
    intro G G' I J g g' r hg hg' hr hr' a ha
    have c := I.conn g hg r hr a ha
    clear ha
    induction c with
    | refl _ => exact hr'
    | @step b c _ hh hc ih =>
      obtain ⟨f, hf, hcf⟩ := (J.cov c).mp hc
      rw [J.sep g' hg' f hf b ih c hcf hh]; exact hcf
  obtain ⟨r, hr⟩ := List.exists_mem_of_ne_nil _ (I.ne g hg)
  obtain ⟨g', hg', hr'⟩ := (J.cov r).mp ((I.cov r).mpr ⟨g, hg, hr⟩)
  exact ⟨g', hg', fun a => ⟨into I J hg hg' hr hr' a, into J I hg' hg hr' hr a⟩⟩
/-- the row cut to a group -/
def only (R : List Nat) (g : List Nat) : List Nat := R.filter fun r => decide (r ∈ g)
theorem Groups.perm {G G' : List (List Nat)} (hself : ∀ a ∈ R, Hang L a a) (I : Groups L R G) (J : Groups L R G') : (G.map (only R)).Perm (G'.map (only R)) := by
  have nd : ∀ {G : List (List Nat)}, Groups L R G → (G.map (only R)).Nodup := fun {G} I => by
    unfold List.Nodup
    rw [List.pairwise_map]
    refine I.nd.imp_of_mem fun {a b} ha hb hab e => hab ?_
    obtain ⟨r, hr⟩ := List.exists_mem_of_ne_nil _ (I.ne a ha)
    have hrR := (I.cov r).mpr ⟨a, ha, hr⟩
    have : r ∈ only R a := List.mem_filter.mpr ⟨hrR, decide_eq_true hr⟩
    rw [e] at this
    have hrb := of_decide_eq_true (List.mem_filter.mp this).2
    exact I.sep a ha b hb r hr r hrb (hself r hrR)
  rw [List.perm_ext_iff_of_nodup (nd I) (nd J)]
  have one : ∀ {G G' : List (List Nat)}, Groups L R G → Groups L R G' → ∀ x, x ∈ G.map (only R) → x ∈ G'.map (only R) := fun {G G'} I J x hx => by
    obtain ⟨g, hg, rfl⟩ := List.mem_map.mp hx
    obtain ⟨g', hg', e⟩ := I.sub hself J hg
    refine List.mem_map.mpr ⟨g', hg', ?_⟩
    unfold only
    congr 1; funext r
    exact Bool.eq_iff_iff.mpr (by rw [decide_eq_true_eq, decide_eq_true_eq]; exact (e r).symm)
  exact fun x => ⟨one I J x, one J I x⟩
end
end M
namespace M
open PySem PySem.Spec PyProof.Rows L2 Hap
local instance : TabC := noTab
section
variable {h : Nat} {L : List (Nat × List Nat)} {R : List Nat}
def gD (m : Bool × List Nat) : D := .lst m.1 (m.2.map sgD)
@[simp] theorem frzs_sgs {g : List Nat} : frzs (g.map sgD) = g.map sgD := frzs_mapf fun _ _ => rfl
@[simp] theorem imms_sgs {g : List Nat} : isImms (g.map sgD) = true := imms_map fun _ _ => rfl
@[simp] theorem frz_gD {m} : frz (gD m) = gD (false, m.2) := by unfold gD; simp
@[simp] theorem imm_gD {g} : isImm (gD (false, g)) = true := by unfold gD; simp
/-- small groups -/
structure GOk (L : List (Nat × List Nat)) (G : List (List Nat)) : Prop where
  ok : ∀ g ∈ G, RowOk L g
  nd : ∀ g ∈ G, g.Nodup
theorem GOk.len (H : House h L) {G : List (List Nat)} (K : GOk L G) : ∀ g ∈ G, g.length ≤ 26 := fun g hg => by
  have := nodup_sub_len (K.nd g hg) (ys := List.range 26) fun r hr => List.mem_range.mpr ((K.ok g hg).lt26 H r hr)
  simpa using this
end
end M
namespace M
open PySem PySem.Spec PyProof.Rows L2 Hap
local instance : TabC := noTab
end M
namespace M
open PySem PySem.Spec PyProof.Rows L2 Hap
local instance : TabC := noTab
end M
namespace M
open PySem PySem.Spec PyProof.Rows L2 Hap
local instance : TabC := noTab
section
variable {O : Nat → List Nat}
def Rl2 (O : Nat → List Nat) (p k : Nat) : Prop := ∃ x, x ∈ O p ∧ x ∈ O k
abbrev Bl (O : Nat → List Nat) (i j : Nat) : Prop := Reach (Rl2 O) i j
theorem bl_hand {x i j : Nat} (hi : x ∈ O i) (hj : x ∈ O j) (h : i ≤ j) : Bl O i j := by
  by_cases e : i = j
  · subst e; exact .refl i
  · exact .tail (.refl i) (by omega) ⟨x, hi, hj⟩
/-- i is the newest deed of q in the past of d -/
structure IsN (O : Nat → List Nat) (d q i : Nat) : Prop where
  bl : Bl O i d
  own : q ∈ O i
  max : ∀ j, Bl O j d → q ∈ O j → j ≤ i
theorem IsN.uniq {d q i j : Nat} (h : IsN O d q i) (k : IsN O d q j) : i = j := Nat.le_antisymm (k.max i h.bl h.own) (h.max j k.bl k.own)
open Classical in
noncomputable def N (O : Nat → List Nat) (d q : Nat) : Option Nat := if h : ∃ i, IsN O d q i then some h.choose else none
theorem N_some {d q i : Nat} : N O d q = some i ↔ IsN O d q i := by
  unfold N
  constructor
  · intro h
    split at h
    · rename_i e
      rw [← Option.some.inj h]; exact e.choose_spec
    · cases h
  · intro h
    have e : ∃ i, IsN O d q i := ⟨i, h⟩
    rw [dif_pos e, e.choose_spec.uniq h]
theorem exists_max {P : Nat → Prop} : ∀ (n : Nat), (∃ i, P i) → (∀ i, P i → i ≤ n) → ∃ i, P i ∧ ∀ j, P j → j ≤ i
  | 0, ⟨i, h⟩, hb => ⟨i, h, fun j hj => by have := hb j hj; omega⟩
  | n + 1, ⟨i, h⟩, hb => by
    by_cases c : P (n + 1)
    · exact ⟨n + 1, c, hb⟩
    · exact exists_max n ⟨i, h⟩ fun j hj => by
        have := hb j hj
        have : j ≠ n + 1 := fun e => c (e ▸ hj)
        omega
theorem N_ex {d q j : Nat} (h : Bl O j d) (hq : q ∈ O j) : ∃ i, N O d q = some i ∧ j ≤ i := by
  obtain ⟨i, ⟨h1, h2⟩, h3⟩ := exists_max (P := fun i => Bl O i d ∧ q ∈ O i) d ⟨j, h, hq⟩ fun i hi => hi.1.le
  exact ⟨i, N_some.mpr ⟨h1, h2, fun j hj hq => h3 j ⟨hj, hq⟩⟩, h3 j ⟨h, hq⟩⟩
theorem N_self {d q : Nat} (h : q ∈ O d) : N O d q = some d := N_some.mpr ⟨.refl d, h, fun j hj _ => hj.le⟩
/-- the last deed of a hand ahead of k -/
def la (O : Nat → List Nat) : Nat → Nat → Option Nat
  | 0, _ => none
  | k + 1, x => if x ∈ O k then some k else la O k x
theorem la_some {x : Nat} : ∀ {k l : Nat}, la O k x = some l ↔ l < k ∧ x ∈ O l ∧ ∀ j, j < k → x ∈ O j → j ≤ l
  | 0, l => by simp [la]
  | k + 1, l => by
    rw [la]
    by_cases c : x ∈ O k
    · rw [if_pos c]
      constructor
      · intro h; cases h; exact ⟨by omega, c, fun j hj _ => by omega⟩
      · rintro ⟨h1, h2, h3⟩
        have := h3 k (by omega) c
        congr 1; omega
    · rw [if_neg c, la_some]
      constructor
      · rintro ⟨h1, h2, h3⟩
        refine ⟨by omega, h2, fun j hj hx => ?_⟩
        by_cases e : j = k
        · subst e; exact (c hx).elim
        · exact h3 j (by omega) hx
      · rintro ⟨h1, h2, h3⟩
        have : l ≠ k := fun e => c (e ▸ h2)
        exact ⟨by omega, h2, fun j hj hx => h3 j (by omega) hx⟩
theorem la_none {k x : Nat} : la O k x = none ↔ ∀ j, j < k → x ∉ O j := by
  constructor
  · intro h j hj hx
    obtain ⟨i, ⟨h1, h2⟩, h3⟩ := exists_max (P := fun i => i < k ∧ x ∈ O i) k ⟨j, hj, hx⟩ fun i hi => by omega
    have := la_some.mpr ⟨h1, h2, fun j hj hx => h3 j ⟨hj, hx⟩⟩
    rw [h] at this; cases this
  · intro h
    cases e : la O k x with
    | none => rfl
    | some l => exact (h l (la_some.mp e).1 (la_some.mp e).2.1).elim
theorem la_ex {k x j : Nat} (hj : j < k) (hx : x ∈ O j) : ∃ l, la O k x = some l ∧ j ≤ l := by
  cases e : la O k x with
  | none => exact (la_none.mp e j hj hx).elim
  | some l => exact ⟨l, rfl, (la_some.mp e).2.2 j hj hx⟩
/-- third-hand news -/
noncomputable def T3 (O : Nat → List Nat) (l : Option Nat) (q r s : Nat) : Option Nat := ((l.bind fun d => N O d q).bind fun d => N O d r).bind fun d => N O d s
/-- in use: second-hand news of some hand -/
def InUse (O : Nat → List Nat) (k d : Nat) : Prop := ∃ p q r, (((la O k p).bind fun d => N O d q).bind fun d => N O d r) = some d
theorem InUse.first {k p l q d : Nat} (hl : la O k p = some l) (h : N O l q = some d) : InUse O k d := ⟨p, p, q, by rw [hl, Option.bind_some, N_self (la_some.mp hl).2.1, Option.bind_some, h]⟩
theorem InUse.second {k p l q u r d : Nat} (hl : la O k p = some l) (hu : N O l q = some u) (h : N O u r = some d) : InUse O k d := ⟨p, q, r, by rw [hl, Option.bind_some, hu, Option.bind_some, h]⟩
theorem InUse.get {k d : Nat} (h : InUse O k d) : ∃ p l q u r, la O k p = some l ∧ N O l q = some u ∧ N O u r = some d := by
  obtain ⟨p, q, r, h⟩ := h
  cases e : la O k p with
  | none => rw [e] at h; cases h
  | some l =>
    rw [e, Option.bind_some] at h
    cases e2 : N O l q with
    | none => rw [e2] at h; cases h
    | some u =>
      rw [e2, Option.bind_some] at h
      exact ⟨p, l, q, u, r, e, e2, h⟩
/-- what stands below a new deed, by what its hands knew -/
theorem past_new {k i : Nat} (h : Bl O i k) (hne : i ≠ k) : ∃ x l, x ∈ O k ∧ la O k x = some l ∧ Bl O i l := by
  rcases Reach.tail_iff.mp h with e | ⟨p, hlt, ⟨x, hx1, hx2⟩, hr⟩
  · exact (hne e).elim
  · obtain ⟨l, hl, hpl⟩ := la_ex hlt hx1
    exact ⟨x, l, hx2, hl, hr.trans (bl_hand hx1 (la_some.mp hl).2.1 hpl)⟩
theorem new_past {k x l i : Nat} (hx : x ∈ O k) (hl : la O k x = some l) (h : Bl O i l) : Bl O i k := by
  have := la_some.mp hl
  exact .tail h this.1 ⟨x, this.2.1, hx⟩
/-- the newest deed of another hand, from one of the doers -/
theorem N_new {k q i : Nat} (hq : q ∉ O k) : N O k q = some i ↔ (∃ x l, x ∈ O k ∧ la O k x = some l ∧ N O l q = some i) ∧ ∀ x l j, x ∈ O k → la O k x = some l → N O l q = some j → j ≤ i := by
  constructor
  · intro h
    have h := N_some.mp h
    have hne : i ≠ k := fun e => hq (e ▸ h.own)
    obtain ⟨x, l, hx, hl, hb⟩ := past_new h.bl hne
    refine ⟨⟨x, l, hx, hl, N_some.mpr ⟨hb, h.own, fun j hj hqj => h.max j (new_past hx hl hj) hqj⟩⟩, fun x l j hx hl hj => ?_⟩
    have hj := N_some.mp hj
    exact h.max j (new_past hx hl hj.bl) hj.own
  · rintro ⟨⟨x, l, hx, hl, hi⟩, hm⟩
    have hi := N_some.mp hi
    refine N_some.mpr ⟨new_past hx hl hi.bl, hi.own, fun j hj hqj => ?_⟩
    have hne : j ≠ k := fun e => hq (e ▸ hqj)
    obtain ⟨y, l', hy, hl', hb⟩ := past_new hj hne
    obtain ⟨j', hj', hle⟩ := N_ex hb hqj
    exact Nat.le_trans hle (hm y l' j' hy hl' hj')
theorem InUse.step {k d : Nat} (h : InUse O (k + 1) d) : d = k ∨ InUse O k d := by
  obtain ⟨p, l, q, u, r, hl, hu, hd⟩ := h.get
  rw [la] at hl
  by_cases c : p ∈ O k
  · rw [if_pos c] at hl; cases hl
    by_cases c2 : q ∈ O k
    · rw [N_self c2] at hu; cases hu
      by_cases c3 : r ∈ O k
      · rw [N_self c3] at hd; cases hd; exact .inl rfl
      · obtain ⟨⟨x, l, _, hl, hi⟩, _⟩ := (N_new c3).mp hd
        exact .inr (.first hl hi)
    · obtain ⟨⟨x, l, _, hl, hi⟩, _⟩ := (N_new c2).mp hu
      exact .inr (.second hl hi hd)
  · rw [if_neg c] at hl
    exact .inr (.second hl hu hd)
/-- numbers that avoid the third-hand news of their hands -/
def Names (O : Nat → List Nat) (le : Nat → Nat) (nm : Nat → Nat) (n : Nat) : Prop := ∀ k, k < n → ∀ x l q r s d, x ∈ O k → la O k x = some l → T3 O (some l) q r s = some d → le d = le k → nm d ≠ nm k
end
end M
namespace M
open PySem PySem.Spec PyProof.Rows L2 Hap
local instance : TabC := noTab
abbrev Nm := Option (Nat × Nat)
def nmD : Nm → D
  | none => .non
  | some p => .tup [sgD p.1, natD p.2]
def r1D (h : Nat) (f : Nat → Nm) : D := .tup ((List.range h).map fun s => nmD (f s))
def r2D (h : Nat) (f : Nat → Nat → Nm) : D := .tup ((List.range h).map fun r => r1D h (f r))
abbrev F3 := Nat → Nat → Nat → Nm
def r3D (h : Nat) (f : F3) : D := .tup ((List.range h).map fun q => r2D h (f q))
@[simp] theorem frz_nm {a : Nm} : frz (nmD a) = nmD a := by cases a <;> rfl
@[simp] theorem imm_nm {a : Nm} : isImm (nmD a) = true := by cases a <;> rfl
@[simp] theorem noL_nm {a : Nm} : noL (nmD a) = true := by cases a <;> rfl
@[simp] theorem frz_r1 {h f} : frz (r1D h f) = r1D h f := by unfold r1D; rw [frz_tup, frzs_mapf (g := fun s => nmD (f s)) fun _ _ => frz_nm]
@[simp] theorem imm_r1 {h f} : isImm (r1D h f) = true := by unfold r1D; rw [imm_tup]; exact imms_map fun _ _ => imm_nm
@[simp] theorem noL_r1 {h f} : noL (r1D h f) = true := by unfold r1D; rw [noL_tup]; exact noLs_map fun _ _ => noL_nm
@[simp] theorem frz_r2 {h f} : frz (r2D h f) = r2D h f := by unfold r2D; rw [frz_tup, frzs_mapf (g := fun r => r1D h (f r)) fun _ _ => frz_r1]
@[simp] theorem imm_r2 {h f} : isImm (r2D h f) = true := by unfold r2D; rw [imm_tup]; exact imms_map fun _ _ => imm_r1
@[simp] theorem noL_r2 {h f} : noL (r2D h f) = true := by unfold r2D; rw [noL_tup]; exact noLs_map fun _ _ => noL_r1
@[simp] theorem frz_r3 {h f} : frz (r3D h f) = r3D h f := by unfold r3D; rw [frz_tup, frzs_mapf (g := fun q => r2D h (f q)) fun _ _ => frz_r2]
@[simp] theorem imm_r3 {h f} : isImm (r3D h f) = true := by unfold r3D; rw [imm_tup]; exact imms_map fun _ _ => imm_r2
@[simp] theorem noL_r3 {h f} : noL (r3D h f) = true := by unfold r3D; rw [noL_tup]; exact noLs_map fun _ _ => noL_r2
@[simp] theorem r3_len {h f} : gLen [r3D h f] = some (.int (h : Int)) := by unfold r3D; simp
section
variable {h : Nat} {L : List (Nat × List Nat)} {R : List Nat} {f g : F3}
def firstsL (h : Nat) (f : F3) : List Nm := ((List.range h).filter fun q => decide (f q q q ≠ none)).map fun q => f q q q
def knowsB (h : Nat) (f g : F3) (x : Nat) : Bool := (List.range h).any fun b => decide (f b b b ∈ firstsL h g) && decide (f b b x = f x x x)
def newerI (h : Nat) (f g : F3) (x : Nat) : Int := if f x x x = g x x x then 0 else if f x x x = none ∨ (g x x x ≠ none ∧ knowsB h f g x = true) then -1 else 1
def bestF (h x : Nat) (best : F3) (fs : List F3) : F3 := fs.foldl (fun b o => if newerI h o b x = 1 then o else b) best
end
end M
namespace M
open PySem PySem.Spec PyProof.Rows L2 Hap
local instance : TabC := noTab
section
variable {h : Nat} {L : List (Nat × List Nat)} {R : List Nat} {f g : F3}
def InF (h : Nat) (fs : List F3) (l n : Nat) : Prop := ∃ f ∈ fs, ∃ q r s, q < h ∧ r < h ∧ s < h ∧ f q r s = some (l, n)
/-- the least number that is not there -/
def Mex (S : Nat → Prop) (n : Nat) : Prop := ¬ S n ∧ ∀ m, m < n → S m
theorem Mex.uniq {S : Nat → Prop} {n m : Nat} (h : Mex S n) (k : Mex S m) : n = m := by
  rcases Nat.lt_trichotomy n m with c | c | c
  · exact (h.1 (k.2 n c)).elim
  · exact c
  · exact (k.1 (h.2 m c)).elim
/-- the news behind a deed, in terms of its doers' -/
def newF (h : Nat) (ow : List Nat) (nm : Nm) (f : F3) (fs : List F3) : F3 := fun q r s =>
  let a : Nat → Nm := fun q => if q ∈ ow then nm else bestF h q f fs q q q
  if q ∈ ow then (if r ∈ ow then a s else bestF h r f fs r r s) else bestF h q f fs q r s
end
end M
namespace M
open PySem PySem.Spec PyProof.Rows L2 Hap
local instance : TabC := noTab
def oI : Option Nat → Int
  | none => -1
  | some i => (i : Int)
def lineD (o : Bool) (h : Nat) (f : Nat → Int) : D := .lst o ((List.range h).map fun q => .int (f q))
@[simp] theorem frz_line {o h f} : frz (lineD o h f) = lineD false h f := by unfold lineD; rw [frz_lst, frzs_mapf (g := fun q => D.int (f q)) fun _ _ => rfl]
@[simp] theorem imm_line {h f} : isImm (lineD false h f) = true := by unfold lineD; rw [imm_lstI]; exact imms_map fun _ _ => rfl
section
variable {h : Nat} {L : List (Nat × List Nat)} {R : List Nat}
abbrev OR (L : List (Nat × List Nat)) (R : List Nat) : Nat → List Nat := fun k => ow L (M.lt R k)
/-- what stands in the line so far -/
structure Ln (O : Nat → List Nat) (k : Nat) (done : List Nat) (q : Nat) (v : Int) : Prop where
  ge : -1 ≤ v
  ex : v = -1 ∨ ∃ x l i, x ∈ done ∧ la O k x = some l ∧ N O l q = some i ∧ v = (i : Int)
  le : ∀ x l i, x ∈ done → la O k x = some l → N O l q = some i → (i : Int) ≤ v
theorem Ln.done {O : Nat → List Nat} {k q : Nat} {v : Int} (I : Ln O k (O k) q v) : (if q ∈ O k then (k : Int) else v) = oI (N O k q) := by
  by_cases c : q ∈ O k
  · rw [if_pos c, N_self c]; rfl
  · rw [if_neg c]
    rcases I.ex with h1 | ⟨x, l, i, h1, h2, h3, h4⟩
    · have : N O k q = none := by
        cases e : N O k q with
        | none => rfl
        | some i =>
          obtain ⟨⟨x, l, hx, hl, hi⟩, _⟩ := (N_new c).mp e
          have := I.le x l i hx hl hi
          omega
      rw [this, h1]; rfl
    · have : N O k q = some i := (N_new c).mpr ⟨⟨x, l, h1, h2, h3⟩, fun y l' j hy hl' hj => by have := I.le y l' j hy hl' hj; omega⟩
      rw [this, h4]; rfl
noncomputable def newD (o : Bool) (L : List (Nat × List Nat)) (R : List Nat) (h k : Nat) : D := lineD o h fun q => oI (N (OR L R) k q)
end
end M
namespace M
open PySem PySem.Spec PyProof.Rows L2 Hap
local instance : TabC := noTab
end M
namespace M
open PySem PySem.Spec PyProof.Rows L2 Hap
local instance : TabC := noTab
section
variable {h : Nat} {L : List (Nat × List Nat)} {R : List Nat}
theorem frz_newD {o : Bool} {k : Nat} : frz (newD o L R h k) = newD false L R h k := frz_line
/-- the lines of the newest, given up -/
noncomputable def newsL (L : List (Nat × List Nat)) (R : List Nat) (h : Nat) : D := .lst false ((List.range R.length).map (newD false L R h))
@[simp] theorem newsL_fz : frz (newsL L R h) = newsL L R h := by
  unfold newsL; rw [frz_lst, frzs_mapf (g := newD false L R h) fun _ _ => frz_newD]
@[simp] theorem newsL_im : isImm (newsL L R h) = true := by unfold newsL; rw [imm_lstI]; exact imms_map fun _ _ => imm_line
end
end M
namespace M
open PySem PySem.Spec PyProof.Rows L2 Hap
local instance : TabC := noTab
end M
namespace M
open PySem PySem.Spec PyProof.Rows L2 Hap
local instance : TabC := noTab
end M
namespace M
open PySem PySem.Spec PyProof.Rows L2 Hap
local instance : TabC := noTab
end M
namespace M
open PySem PySem.Spec PyProof.Rows L2 Hap
local instance : TabC := noTab
end M
namespace M
open PySem PySem.Spec PyProof.Rows L2 Hap
local instance : TabC := noTab
section
variable {h : Nat} {L : List (Nat × List Nat)} {R : List Nat}
open Classical in
noncomputable def mexN (P : Nat → Prop) : Nat := if e : ∃ n, Mex P n then e.choose else 0
noncomputable def stN (h : Nat) (L : List (Nat × List Nat)) (S : Nat → F3) (l : Nat) : Nat := mexN (InF h ((ow L l).map S) l)
noncomputable def stF (h : Nat) (L : List (Nat × List Nat)) (S : Nat → F3) (l : Nat) : F3 := match ow L l with
  | [] => fun _ _ _ => none
  | y :: ys => newF h (ow L l) (some (l, stN h L S l)) (S y) (ys.map S)
noncomputable def stS (h : Nat) (L : List (Nat × List Nat)) (S : Nat → F3) (l : Nat) : Nat → F3 := fun x => if x ∈ ow L l then stF h L S l else S x
noncomputable def ruS (h : Nat) (L : List (Nat × List Nat)) : (Nat → F3) → List Nat → Nat → F3
  | S, [] => S
  | S, l :: R => ruS h L (stS h L S l) R
noncomputable def ruN (h : Nat) (L : List (Nat × List Nat)) : (Nat → F3) → List Nat → List (Nat × Nat)
  | _, [] => []
  | S, l :: R => (l, stN h L S l) :: ruN h L (stS h L S l) R
/-- the same news, the same names of each letter -/
def Eqv (h : Nat) (L : List (Nat × List Nat)) (R R' : List Nat) : Prop := ∀ S, ruS h L S R = ruS h L S R' ∧ ∀ c, (ruN h L S R).filter (fun p => decide (p.1 = c)) = (ruN h L S R').filter (fun p => decide (p.1 = c))
theorem Eqv.refl : Eqv h L R R := fun _ => ⟨rfl, fun _ => rfl⟩
theorem Eqv.trans {R' R'' : List Nat} (a : Eqv h L R R') (b : Eqv h L R' R'') : Eqv h L R R'' := fun S => ⟨(a S).1.trans (b S).1, fun c => ((a S).2 c).trans ((b S).2 c)⟩
end
end M
namespace M
open PySem PySem.Spec PyProof.Rows L2 Hap
local instance : TabC := noTab
end M
namespace M
open PySem PySem.Spec PyProof.Rows L2 Hap
local instance : TabC := noTab
section
variable {h : Nat} {L : List (Nat × List Nat)} {R : List Nat} {mv : List (List Nat)} {gd : List Nat}
/-- where a letter leads -/
def nxt (L : List (Nat × List Nat)) (mv : List (List Nat)) (x r : Nat) : Nat := (((mv[x]?).getD [])[(L.map (·.1)).idxOf r]?).getD 0
theorem gd_in {y : Nat} : gIn (.int (y : Int)) (ownD false gd) = some (.bl (decide (y ∈ gd))) := in_map (f := natD) (o := false) (xs := gd) (z := y) eqd_natD sh_int fun _ _ => sh_int
end
end M
namespace Hap
open PySem PySem.Spec PyProof.Rows L2
end Hap
namespace TabB
open PySem PySem.Spec PyProof.Rows L2
/-- 1 + 5 + .. + 5 ^ (k - 1) -/
def sum5 : Nat → Nat
  | 0 => 0
  | k + 1 => 5 * sum5 k + 1
theorem pow5 : ∀ k, 5 ^ k = 4 * sum5 k + 1
  | 0 => rfl
  | k + 1 => by rw [Nat.pow_succ, pow5 k, sum5]; omega
theorem sum5_par : ∀ k, sum5 k % 2 = k % 2
  | 0 => rfl
  | k + 1 => by have := sum5_par k; rw [sum5]; omega
theorem sum5_add (a : Nat) : ∀ b, sum5 (a + b) = sum5 a * 5 ^ b + sum5 b
  | 0 => by simp [sum5]
  | b + 1 => by
    rw [← Nat.add_assoc, sum5, sum5_add a b, sum5, Nat.pow_succ]
    generalize sum5 a = x
    generalize 5 ^ b = y
    generalize sum5 b = z
    rw [Nat.mul_add, ← Nat.mul_assoc, Nat.mul_comm 5 x, Nat.mul_assoc x 5 y, Nat.mul_comm 5 y]
    omega
/-- an odd factor is left out -/
theorem odd_out : ∀ (n a b : Nat), 2 ^ n ∣ a * (2 * b + 1) → 2 ^ n ∣ a
  | 0, a, _, _ => by simp
  | n + 1, a, b, ⟨c, hc⟩ => by
    have h2 : a * (2 * b + 1) = 2 * (a * b) + a := by rw [Nat.mul_add, Nat.mul_one, Nat.mul_left_comm]
    have hp : (2 : Nat) ^ (n + 1) * c = 2 * (2 ^ n * c) := by rw [Nat.pow_succ, Nat.mul_comm (2 ^ n) 2, Nat.mul_assoc]
    have ev : a % 2 = 0 := by omega
    obtain ⟨e, rfl⟩ : ∃ e, a = 2 * e := ⟨a / 2, by omega⟩
    have hd : 2 ^ n ∣ e * (2 * b + 1) := ⟨c, by
      rw [hp, Nat.mul_assoc] at hc
      omega⟩
    obtain ⟨d, hd⟩ := odd_out n e b hd
    exact ⟨d, by rw [hd, Nat.pow_succ, Nat.mul_comm (2 ^ n) 2, Nat.mul_assoc]⟩
theorem sum5_div : ∀ (n d : Nat), 2 ^ n ∣ sum5 d → 2 ^ n ∣ d
  | 0, _, _ => by simp
  | n + 1, d, h => by
    obtain ⟨c, hc⟩ := id h
    have hp : (2 : Nat) ^ (n + 1) * c = 2 * (2 ^ n * c) := by rw [Nat.pow_succ, Nat.mul_comm (2 ^ n) 2, Nat.mul_assoc]
    have pa := sum5_par d
    obtain ⟨e, rfl⟩ : ∃ e, d = e + e := ⟨d / 2, by omega⟩
    rw [sum5_add, pow5] at hc
    have e1 : sum5 e * (4 * sum5 e + 1) + sum5 e = 2 * (sum5 e * (2 * sum5 e + 1)) := by
      generalize sum5 e = x
      rw [Nat.mul_add, Nat.mul_one, Nat.mul_add, Nat.mul_one, Nat.mul_left_comm x 4 x, Nat.mul_left_comm x 2 x]
      omega
    have hd : 2 ^ n ∣ sum5 e * (2 * sum5 e + 1) := ⟨c, by omega⟩
    obtain ⟨q, hq⟩ := sum5_div n e (odd_out n _ _ hd)
    exact ⟨q, by rw [Nat.pow_succ, Nat.mul_comm (2 ^ n) 2, Nat.mul_assoc]; omega⟩
theorem lcgI_form (m i : Nat) : ∀ k, lcgI m i k % (m + 1) = (i * 5 ^ k + sum5 k) % (m + 1)
  | 0 => by simp [lcgI, sum5]
  | k + 1 => by
    show (lcgI m i k * 5 + 1) % (m + 1) % (m + 1) = _
    rw [Nat.mod_mod, Nat.add_mod, Nat.mul_mod, lcgI_form m i k, ← Nat.mul_mod, ← Nat.add_mod]
    congr 1
    rw [Nat.pow_succ, sum5]
    generalize sum5 k = z
    generalize 5 ^ k = y
    rw [Nat.add_mul, Nat.mul_assoc]
    omega
theorem lcgI_le {m i : Nat} (hi : i ≤ m) : ∀ k, lcgI m i k ≤ m
  | 0 => hi
  | k + 1 => Nat.le_of_lt_succ (Nat.mod_lt _ (Nat.succ_pos _))
theorem lcgI_add (m i a : Nat) : ∀ k, lcgI m (lcgI m i a) k = lcgI m i (a + k)
  | 0 => rfl
  | k + 1 => by
    show (lcgI m (lcgI m i a) k * 5 + 1) % (m + 1) = (lcgI m i (a + k) * 5 + 1) % (m + 1)
    rw [lcgI_add m i a k]
/-- no slot is met twice within a round -/
theorem lcgI_inj {n m i : Nat} (hm : m + 1 = 2 ^ n) (hi : i ≤ m) {a d : Nat} (hd : 0 < d) (hdm : d ≤ m) : lcgI m i (a + d) ≠ lcgI m i a := fun e => by
  rw [← lcgI_add] at e
  generalize hx : lcgI m i a = x at e
  have hxm : x ≤ m := by rw [← hx]; exact lcgI_le hi a
  have f := lcgI_form m x d
  rw [e, pow5] at f
  have h1 : (x * (4 * sum5 d + 1) + sum5 d) = sum5 d * (2 * (2 * x) + 1) + x := by
    generalize sum5 d = s
    rw [Nat.mul_add, Nat.mul_one, Nat.mul_add, Nat.mul_one, ← Nat.mul_assoc, ← Nat.mul_assoc, ← Nat.mul_assoc, Nat.mul_comm x 4, Nat.mul_comm s 2, Nat.mul_assoc 2 s 2, Nat.mul_comm s 2, ← Nat.mul_assoc, Nat.mul_assoc 4 x s, Nat.mul_comm x s, Nat.mul_assoc (2 * 2) s x]
    omega
  rw [h1] at f
  have hdiv : (m + 1) ∣ sum5 d * (2 * (2 * x) + 1) := by
    rw [Nat.mod_eq_of_lt (show x < m + 1 by omega)] at f
    have q := Nat.div_add_mod (sum5 d * (2 * (2 * x) + 1) + x) (m + 1)
    rw [← f] at q
    exact ⟨_, (Nat.add_right_cancel q).symm⟩
  rw [hm] at hdiv
  obtain ⟨q, hq⟩ := sum5_div n d (odd_out n _ _ hdiv)
  rw [← hm] at hq
  cases q with
  | zero => omega
  | succ q => rw [Nat.mul_succ] at hq; omega
theorem lcgI_meets {n m : Nat} (hm : m + 1 = 2 ^ n) {i j : Nat} (hi : i ≤ m) (hj : j ≤ m) : ∃ k, k ≤ m ∧ lcgI m i k = j := by
  have nd : ((List.range (m + 1)).map (lcgI m i)).Nodup := by
    refine List.pairwise_map.mpr (List.pairwise_lt_range.imp_of_mem fun {a b} ha hb hab e => ?_)
    have hb := List.mem_range.mp hb
    have := lcgI_inj hm hi (a := a) (d := b - a) (by omega) (by omega)
    rw [show a + (b - a) = b by omega] at this
    exact this e.symm
  rcases Classical.em (j ∈ (List.range (m + 1)).map (lcgI m i)) with c | c
  · obtain ⟨k, hk, e⟩ := List.mem_map.mp c
    exact ⟨k, by have := List.mem_range.mp hk; omega, e⟩
  · exfalso
    have h1 := nat_nodup_len (j :: (List.range (m + 1)).map (lcgI m i)) (List.range (m + 1)) (List.nodup_cons.mpr ⟨c, nd⟩) fun x hx => by
      rcases List.mem_cons.mp hx with rfl | hx
      · exact List.mem_range.mpr (by omega)
      · obtain ⟨k, _, rfl⟩ := List.mem_map.mp hx
        exact List.mem_range.mpr (by have := lcgI_le hi k; omega)
    simp at h1
    omega
/-- the masks that come, up to a thousand members -/
def MaskB (m : Nat) : Prop := m = 7 ∨ m = 31 ∨ m = 127 ∨ m = 511 ∨ m = 2047
theorem MaskB.two {m : Nat} (h : MaskB m) : ∃ n, m + 1 = 2 ^ n := by
  rcases h with e | e | e | e | e
  · exact ⟨3, by rw [e]⟩
  · exact ⟨5, by rw [e]⟩
  · exact ⟨7, by rw [e]⟩
  · exact ⟨9, by rw [e]⟩
  · exact ⟨11, by rw [e]⟩
theorem MaskB.odd {m : Nat} (h : MaskB m) : m % 2 = 1 := by rcases h with e | e | e | e | e <;> subst e <;> rfl
theorem MaskB.le {m : Nat} (h : MaskB m) : m ≤ 2047 := by rcases h with e | e | e | e | e <;> omega
theorem runs_meet {m : Nat} (hm : MaskB m) (h : Int) {j : Nat} (hj : j ≤ m) : ∃ n, n ≤ m + 12 ∧ runI m (SetTable.bits h) n = j := by
  obtain ⟨n, hn⟩ := hm.two
  obtain ⟨k, hk, e⟩ := lcgI_meets hn (runI_le m (SetTable.bits h) 12) hj
  exact ⟨12 + k, by omega, by rw [runI_tail (bits_lt h)]; exact e⟩
theorem ways_meet {m : Nat} (hm : MaskB m) (h : Int) {j : Nat} (hj : j ≤ m) : ∃ k, k < 10 * SetTable.turns m ∧ way m h k = j := by
  obtain ⟨n, hn, e⟩ := runs_meet hm h hj
  obtain ⟨k, hk, e2⟩ := run_nth m (SetTable.bits h) n
  refine ⟨k, by unfold SetTable.turns; omega, ?_⟩
  show (nth m (runAt m (SetTable.bits h % (m + 1)) (SetTable.bits h)) k).j = j
  rw [e2]
  exact e
theorem way_in {m : Nat} {h : Int} {k : Nat} : way m h k ≤ m := by
  have hi : SetTable.bits h % (m + 1) ≤ m := Nat.le_of_lt_succ (Nat.mod_lt _ (Nat.succ_pos _))
  have r := runEnd_bd hi
  have q := nth_in (m := m) k (runAt m (SetTable.bits h % (m + 1)) (SetTable.bits h)) (by
    show SetTable.bits h % (m + 1) + (SetTable.runEnd m (SetTable.bits h % (m + 1)) - SetTable.bits h % (m + 1)) ≤ m
    omega)
  show (nth m (runAt m (SetTable.bits h % (m + 1)) (SetTable.bits h)) k).j ≤ m
  omega
/-- a table in which each of some hashes is found again -/
structure TabB (t : SetTable) (hs : List Int) : Prop where
  ris : Ris t.place.toList
  dm : t.dummies = #[]
  sz : t.place.size = hs.length
  mok : MaskB t.mask
  bd : ∀ x ∈ t.place.toList, x ≤ t.mask
  reach : ∀ (i : Nat) (h : Int) (j : Nat), hs[i]? = some h → t.place.toList[i]? = some j → ∃ k, way t.mask h k = j ∧ ∀ k', k' < k → way t.mask h k' ∈ t.place.toList
section
variable {t : SetTable} {hs : List Int}
theorem TabB.first (T : TabB t hs) (hl : hs.length ≤ t.mask) (h : Int) : ∃ K, K < 10 * SetTable.turns t.mask ∧ way t.mask h K ∉ t.place.toList ∧ ∀ k, k < K → way t.mask h k ∈ t.place.toList := by
  obtain ⟨j, hj, hn⟩ := st_missing t.place.toList (t.mask + 1) (by rw [Array.length_toList, T.sz]; omega)
  obtain ⟨k, hk, e⟩ := ways_meet T.mok h (Nat.le_of_lt_succ hj)
  obtain ⟨K, h1, h2, h3⟩ := st_least (p := fun k => way t.mask h k ∉ t.place.toList) k (by rw [e]; exact hn)
  exact ⟨K, by omega, h2, fun k' hk' => Classical.not_not.mp (h3 k' hk')⟩
theorem TabB.before (T : TabB t hs) {h : Int} {K i j : Nat} (hK : way t.mask h K ∉ t.place.toList) (hi : hs[i]? = some h) (hj : t.place.toList[i]? = some j) : ∃ k, k < K ∧ way t.mask h k = j := by
  obtain ⟨k, e, hb⟩ := T.reach i h j hi hj
  refine ⟨k, ?_, e⟩
  rcases Nat.lt_trichotomy k K with c | c | c
  · exact c
  · rw [← c, e] at hK
    exact absurd (List.mem_of_getElem? hj) hK
  · exact absurd (hb K c) hK
theorem TabB.put (T : TabB t hs) {h : Int} {K : Nat} (hK : way t.mask h K ∉ t.place.toList) (hb : ∀ k, k < K → way t.mask h k ∈ t.place.toList) :
    (t.put (way t.mask h K)).2 = SetTable.below t.place (way t.mask h K) ∧ SetTable.below t.place (way t.mask h K) ≤ hs.length ∧
    TabB (t.put (way t.mask h K)).1 (hs.take (SetTable.below t.place (way t.mask h K)) ++ h :: hs.drop (SetTable.below t.place (way t.mask h K))) ∧
    (t.put (way t.mask h K)).1.mask = t.mask ∧ (t.put (way t.mask h K)).1.led = t.led ∧ (t.put (way t.mask h K)).1.plain = t.plain ∧ (t.put (way t.mask h K)).1.moves = t.moves ∧ (t.put (way t.mask h K)).1.finger = t.finger ∧
    (t.put (way t.mask h K)).1.fill = hs.length + 1 := by
  have hjm : way t.mask h K ≤ t.mask := way_in
  obtain ⟨j, hj⟩ : ∃ j, j = way t.mask h K := ⟨_, rfl⟩
  rw [← hj] at hK hjm ⊢
  have c1 := (below_cut T.ris j).1
  have hpl : SetTable.below t.place j ≤ t.place.toList.length := by rw [Array.length_toList]; exact c1
  have hph : SetTable.below t.place j ≤ hs.length := by rw [← T.sz]; exact c1
  have hnp : t.place[SetTable.below t.place j]? ≠ some j := fun e => hK (List.mem_of_getElem? (by rw [Array.getElem?_toList]; exact e))
  have hpp := put_place t j
  have hsize : (t.put j).1.place.size = hs.length + 1 := by rw [← Array.length_toList, hpp, len_ins _ hpl, Array.length_toList, T.sz]
  have up : ∀ {x : Nat}, x ∈ t.place.toList → x ∈ (t.put j).1.place.toList := fun {x} hx => by rw [hpp]; exact mem_ins.2 (.inr hx)
  refine ⟨rfl, hph, ⟨ris_insert T.ris hnp, put_dm T.dm j, by rw [len_ins _ hph]; exact hsize, T.mok, fun x hx => ?_, fun i h' j' h1 h2 => ?_⟩, rfl, rfl, rfl, rfl, rfl, ?_⟩
  · rw [hpp] at hx
    rcases mem_ins.1 hx with z | z
    · rw [z]; exact hjm
    · exact T.bd x z
  · rw [tins_get hs hph] at h1
    rw [hpp, tins_get _ hpl] at h2
    show ∃ k, way t.mask h' k = j' ∧ ∀ k', k' < k → way t.mask h' k' ∈ (t.put j).1.place.toList
    have old : ∀ i, hs[i]? = some h' → t.place.toList[i]? = some j' → ∃ k, way t.mask h' k = j' ∧ ∀ k', k' < k → way t.mask h' k' ∈ (t.put j).1.place.toList := fun i a b => by
      obtain ⟨k, e, z⟩ := T.reach i h' j' a b
      exact ⟨k, e, fun k' hk' => up (z k' hk')⟩
    by_cases c : i < SetTable.below t.place j
    · rw [if_pos c] at h1 h2; exact old i h1 h2
    · rw [if_neg c] at h1 h2
      by_cases d : i = SetTable.below t.place j
      · rw [if_pos d] at h1 h2
        have e1 : h = h' := Option.some.inj h1
        have e2 : j = j' := Option.some.inj h2
        subst e1 e2
        exact ⟨K, hj.symm, fun k' hk' => up (hb k' hk')⟩
      · rw [if_neg d] at h1 h2; exact old (i - 1) h1 h2
  · show (t.put j).1.place.size + (t.put j).1.dummies.size = hs.length + 1
    rw [hsize, put_dm T.dm j]; rfl
end
theorem free_met {m : Nat} (hm : MaskB m) (owner : Array (Option Nat)) (h : Int) {j : Nat} (hj : j ≤ m) (hf : oAt owner j = none) :
    ∃ K, SetTable.layClean.free m owner (SetTable.turns m) (SetTable.bits h % (m + 1)) (SetTable.bits h) = some (way m h K) ∧ oAt owner (way m h K) = none ∧ ∀ k, k < K → oAt owner (way m h k) ≠ none := by
  obtain ⟨n, hn, e⟩ := runs_meet hm h hj
  have hw : way m h (off m (SetTable.bits h % (m + 1)) (SetTable.bits h) n) = j := by
    show (nth m (runAt m (SetTable.bits h % (m + 1)) (SetTable.bits h)) (off m (SetTable.bits h % (m + 1)) (SetTable.bits h) n)).j = j
    rw [nth_off, itL_run]
    exact e
  obtain ⟨K, k1, k2, k3⟩ := st_least (p := fun k => oAt owner (way m h k) = none) _ (by rw [hw]; exact hf)
  refine ⟨K, free_spec m owner (SetTable.turns m) n _ _ K (by unfold SetTable.turns; omega) k1 (fun k hk => ?_) ?_, k2, k3⟩
  · cases z : oAt owner (nth m (runAt m (SetTable.bits h % (m + 1)) (SetTable.bits h)) k).j with
    | none => exact absurd z (k3 k hk)
    | some _ => rfl
  · have q : oAt owner (nth m (runAt m (SetTable.bits h % (m + 1)) (SetTable.bits h)) K).j = none := k2
    rw [q]; rfl
theorem own_next {m : Nat} (hm : MaskB m) {done : List Int} {owner : Array (Option Nat)} (W : Own m done owner) (hl : done.length ≤ m) (h : Int) :
    ∃ j, SetTable.layClean.free m owner (SetTable.turns m) (SetTable.bits h % (m + 1)) (SetTable.bits h) = some j ∧ Own m (done ++ [h]) (owner.setIfInBounds j (some done.length)) := by
  obtain ⟨ps, hps, hin⟩ := W.ps
  obtain ⟨j0, h0, hn0⟩ := st_missing ps (m + 1) (by omega)
  have hj0 : oAt owner j0 = none := Classical.byContradiction fun z => hn0 (hin j0 (Nat.le_of_lt_succ h0) z)
  obtain ⟨K, e1, e2, e3⟩ := free_met hm owner h (Nat.le_of_lt_succ h0) hj0
  have hjm : way m h K ≤ m := way_in
  generalize hj : way m h K = jj at e1 e2 hjm
  have hjs : jj < owner.size := by rw [W.sz]; exact Nat.lt_succ_of_le hjm
  have hself := oAt_set_self (some done.length) hjs
  have mono : ∀ {i : Nat}, oAt owner i ≠ none → oAt (owner.setIfInBounds jj (some done.length)) i ≠ none := fun {i} hi => by
    by_cases c : i = jj
    · rw [c, hself]; exact fun e => nomatch e
    · rw [oAt_set_ne _ c]; exact hi
  refine ⟨jj, e1, by rw [Array.size_setIfInBounds]; exact W.sz, fun j k hj' e => ?_, fun k hk => ?_, ⟨jj :: ps, by rw [List.length_cons, List.length_append, hps]; rfl, fun j hj' e => ?_⟩⟩
  · by_cases c : j = jj
    · rw [c, hself] at e
      have ek : done.length = k := Option.some.inj e
      exact ⟨h, K, by rw [← ek, List.getElem?_append_right (Nat.le_refl _), Nat.sub_self]; rfl, by rw [hj, c], fun k' hk' => mono (e3 k' hk')⟩
    · rw [oAt_set_ne _ c] at e
      obtain ⟨h', K', a1, a2, a3⟩ := W.at_ j k hj' e
      exact ⟨h', K', by rw [List.getElem?_append_left (List.getElem?_eq_some_iff.mp a1).1]; exact a1, a2, fun k' hk' => mono (a3 k' hk')⟩
  · rw [List.length_append, List.length_singleton] at hk
    by_cases c : k < done.length
    · obtain ⟨j, hj', e⟩ := W.all k c
      exact ⟨j, hj', by rw [oAt_set_ne _ (fun z => by rw [z, e2] at e; cases e)]; exact e⟩
    · rw [show k = done.length by omega]
      exact ⟨jj, hjm, hself⟩
  · by_cases c : j = jj
    · rw [c]; exact List.mem_cons_self
    · rw [oAt_set_ne _ c] at e
      exact List.mem_cons_of_mem _ (hin j hj' e)
theorem fold_next {m : Nat} (hm : MaskB m) : ∀ (rest done : List Int) (owner : Array (Option Nat)), Own m done owner → done.length + rest.length ≤ m →
    ∃ owner', rest.foldl (stepF m) (some (owner, done.length)) = some (owner', (done ++ rest).length) ∧ Own m (done ++ rest) owner'
  | [], done, owner, W, _ => ⟨owner, by rw [List.append_nil]; rfl, by rw [List.append_nil]; exact W⟩
  | h :: rest, done, owner, W, hl => by
    rw [List.length_cons] at hl
    obtain ⟨j, e, W'⟩ := own_next hm W (by omega) h
    obtain ⟨owner', f, W2⟩ := fold_next hm rest (done ++ [h]) _ W' (by rw [List.length_append, List.length_singleton]; omega)
    rw [List.append_assoc] at f W2
    rw [List.length_append, List.length_singleton] at f
    exact ⟨owner', by rw [List.foldl_cons, stepF_some e]; exact f, W2⟩
theorem clean_laid {m : Nat} (hm : MaskB m) {hs : Array Int} (hn : hs.size ≤ m) : ∃ owner, SetTable.layClean m hs = some owner ∧ Own m hs.toList owner := by
  obtain ⟨owner, f, W⟩ := fold_next hm hs.toList [] _ (Own.init m) (by rw [Array.length_toList]; show 0 + hs.size ≤ m; omega)
  rw [List.nil_append] at W
  refine ⟨owner, ?_, W⟩
  have f' : hs.toList.foldl (stepF m) (some (Array.replicate (m + 1) none, 0)) = some (owner, ([] ++ hs.toList).length) := f
  rw [layClean_eq, f']; rfl
theorem laid_anew (t : SetTable) {hs : Array Int} {wanted M : Nat} (hw : SetTable.sizeAbove wanted - 1 = M) (hM : MaskB M) (hn : hs.size ≤ M) :
    ∃ t' order, t.relaid hs wanted = some (t', order) ∧ order.toList.Perm (List.range hs.size) ∧ TabB t' (order.toList.map fun i => hs.getD i 0) ∧ t'.mask = M ∧ t'.led = t.led ∧ t'.plain = t.plain ∧ t'.dummies = #[] := by
  obtain ⟨owner, e, W⟩ := clean_laid hM hn
  have hr : t.relaid hs wanted = some (tabOf t M owner, ((liveOf M owner).map (·.2)).toArray) := by rw [relaid_eq, hw, e]; rfl
  have ris := ris_live (fun j => owner.getD j none) (List.range (M + 1)) (by
    unfold Ris
    first | exact List.pairwise_lt_range | exact List.pairwise_lt_range _)
  have r1 : Ris ((liveOf M owner).map (·.1)) := ris.1
  have r2 : ∀ x ∈ (liveOf M owner).map (·.1), x ∈ List.range (M + 1) := ris.2
  have all : ∀ k, k < hs.size → k ∈ (liveOf M owner).map (·.2) := fun k hk => by
    obtain ⟨j, b1, b2⟩ := W.all k (by rw [Array.length_toList]; exact hk)
    exact List.mem_map.mpr ⟨(j, k), (mem_live W.sz).2 ⟨b1, b2⟩, rfl⟩
  have hlen : (liveOf M owner).length = hs.size := by
    obtain ⟨ps, p1, p2⟩ := W.ps
    have nd : ((liveOf M owner).map (·.1)).Nodup := List.Pairwise.imp (fun h => Nat.ne_of_lt h) r1
    have a := nat_nodup_len ((liveOf M owner).map (·.1)) ps nd fun x hx => by
      obtain ⟨⟨y, k⟩, hq, rfl⟩ := List.mem_map.mp hx
      obtain ⟨b1, b2⟩ := (mem_live W.sz).1 hq
      exact p2 _ b1 (by rw [b2]; exact fun z => nomatch z)
    have b := nat_nodup_len (List.range hs.size) ((liveOf M owner).map (·.2)) List.nodup_range fun k hk => all k (List.mem_range.mp hk)
    rw [List.length_map, p1] at a
    rw [List.length_map, List.length_range] at b
    have hz : hs.toList.length = hs.size := rfl
    omega
  refine ⟨tabOf t M owner, _, hr, perm_range hs.size _ (by rw [← hlen]; exact List.length_map _) all, ⟨r1, rfl, ?_, hM, fun x hx => Nat.le_of_lt_succ (List.mem_range.mp (r2 x hx)), fun i h j h1 h2 => ?_⟩, rfl, rfl, rfl, rfl⟩
  · show ((liveOf M owner).map (·.1)).toArray.size = (((liveOf M owner).map (·.2)).map fun i => hs.getD i 0).length
    rw [List.size_toArray, List.length_map, List.length_map, List.length_map]
  · have h1' : (((liveOf M owner).map (·.2)).map fun i => hs.getD i 0)[i]? = some h := h1
    have h2' : ((liveOf M owner).map (·.1))[i]? = some j := h2
    rw [List.getElem?_map, List.getElem?_map] at h1'
    rw [List.getElem?_map] at h2'
    cases hq : (liveOf M owner)[i]? with
    | none => rw [hq] at h2'; cases h2'
    | some q =>
      obtain ⟨y, k⟩ := q
      rw [hq] at h1' h2'
      have ej : y = j := Option.some.inj h2'
      have eh : hs.getD k 0 = h := Option.some.inj h1'
      subst ej
      obtain ⟨b1, b2⟩ := (mem_live W.sz).1 (List.mem_of_getElem? hq)
      obtain ⟨h0, K, a1, a2, a3⟩ := W.at_ y k b1 b2
      have e0 : hs.getD k 0 = h0 := by rw [Array.getD_eq_getD_getElem?, ← Array.getElem?_toList, a1]; rfl
      have ehh : h0 = h := e0.symm.trans eh
      subst ehh
      refine ⟨K, a2, fun k' hk' => ?_⟩
      show way M h0 k' ∈ (liveOf M owner).map (·.1)
      cases z : oAt owner (way M h0 k') with
      | none => exact absurd z (a3 k' hk')
      | some k2 => exact List.mem_map.mpr ⟨(way M h0 k', k2), (mem_live W.sz).2 ⟨way_in, z⟩, rfl⟩
theorem size_308 : SetTable.sizeAbove (SetTable.grown 77) = 512 := by decide +kernel
theorem size_1228 : SetTable.sizeAbove (SetTable.grown 307) = 2048 := by decide +kernel
end TabB
namespace Hap
open PySem PySem.Spec PyProof.Rows L2
variable [TabC]
section
variable {P : Program} {w : World} {κ : Type} [DecidableEq κ] {knd : HeapKind P w κ} (ok : SetKind knd) {A : Around} {E : Value → Shared → Prop} {s : Shared}
include ok
structure SetBR (knd : HeapKind P w κ) (h : Heap) (a : Addr) (L : List (Addr × κ)) (es : Array (Int × Value)) (ep : Nat) (t : SetTable) : Prop where
  ob : ∃ o, h.get? a = some o ∧ o.ExactSet ∧ o.data = .set es ep t
  rows : es.toList = rowsN knd L
  tab : TabB.TabB t (L.map fun p => knd.hash p.2)
  nd : (L.map (·.2)).Nodup
  tup : ∀ p ∈ L, knd.is h p.2 p.1
  led : w.params.followText "set-order" = true ∨ t.led = true
  room : L.length * 5 < t.mask * 3
  few : L.length < 1000
variable {a : Addr} {L : List (Addr × κ)} {es : Array (Int × Value)} {ep : Nat} {t : SetTable}
omit ok in
theorem SetBR.size (R : SetBR knd s.heap a L es ep t) : es.size = L.length := by
  have h := congrArg List.length R.rows
  unfold rowsN at h
  rw [Array.length_toList, List.length_map] at h
  exact h
omit ok in
theorem SetBR.fits (R : SetBR knd s.heap a L es ep t) : t.fits es.size = true := by
  have h1 := R.tab.sz
  rw [List.length_map] at h1
  have h2 := R.size
  have h3 := R.room
  unfold SetTable.fits SetTable.fill
  rw [R.tab.dm, Bool.and_eq_true, beq_iff_eq, decide_eq_true_eq]
  show t.place.size = es.size ∧ t.place.size + 0 ≤ t.mask
  omega
omit ok in
theorem SetBR.entry (R : SetBR knd s.heap a L es ep t) {i : Nat} {p : Addr × κ} (h : L[i]? = some p) : es[i]? = some (knd.hash p.2, Value.ref p.1) := by
  rw [← Array.getElem?_toList, R.rows]
  unfold rowsN
  rw [List.getElem?_map, h] <;> rfl
omit ok in
theorem SetBR.gw (R : SetBR knd s.heap a L es ep t) : ¬ t.gaveWay = true := by
  unfold SetTable.gaveWay
  rw [R.tab.mok.odd]
  decide
/-- THE SEARCH: from the c-th step of the way on -/
theorem searchB_from (R : SetBR knd s.heap a L es ep t) {x : Addr} {k : κ} (kx : knd.is s.heap k x) (hu : knd.room A) {K : Nat} (wf : K < 10 * SetTable.turns t.mask)
    (wK : way t.mask (knd.hash k) K ∉ t.place.toList) (wb : ∀ c, c < K → way t.mask (knd.hash k) c ∈ t.place.toList) {Q : SetFound → Shared → Prop}
    (in1_ : k ∈ L.map (·.2) → Q (.there none) s) (out1 : k ∉ L.map (·.2) → Q (.free (way t.mask (knd.hash k) K) false) s) :
    ∀ (f c : Nat) (stand : Option SetTable.Probe), stand.getD (t.probeStart (knd.hash k)) = nth t.mask (runAt t.mask (SetTable.bits (knd.hash k) % (t.mask + 1)) (SetTable.bits (knd.hash k))) c → c ≤ K → K - c < f →
      (∀ (i : Nat) p, L[i]? = some p → p.2 = k → ∃ c', c ≤ c' ∧ c' < K ∧ t.place.toList[i]? = some (way t.mask (knd.hash k) c')) →
      wpAny (model P w) A (setSearchFrom a (.ref x) (knd.hash k) true f stand) Q E s
  | 0, c, stand, _, _, f1, _ => absurd f1 (Nat.not_lt_zero _)
  | f + 1, c, stand, st1, hc, f1, re1 => by
    obtain ⟨o, oo, ex1, dd⟩ := R.ob
    rw [setSearchFrom_succ]
    refine wpAny_bind (wpAny_setState_of oo dd R.fits ?_)
    dsimp only
    refine wp_if_neg R.gw ?_
    try refine wpAny_bind (wpAny_pure ?_)
    have nd0 : (nth t.mask (runAt t.mask (SetTable.bits (knd.hash k) % (t.mask + 1)) (SetTable.bits (knd.hash k))) c).dummy = none := by
      have key : ∀ (n : Nat) (p : SetTable.Probe), p.dummy = none → (nth t.mask p n).dummy = none := by
        intro n
        induction n with
        | zero => intro p h; exact h
        | succ n ih =>
          intro p h
          refine ih (adv t.mask p) ?_
          unfold adv
          split <;> exact h
      exact key c _ rfl
    have sh : ∀ q, nth t.mask (nth t.mask (runAt t.mask (SetTable.bits (knd.hash k) % (t.mask + 1)) (SetTable.bits (knd.hash k))) c) q = nth t.mask (runAt t.mask (SetTable.bits (knd.hash k) % (t.mask + 1)) (SetTable.bits (knd.hash k))) (c + q) := fun q => (nth_add t.mask c _ q).symm
    have e1 : ∀ q, (nth t.mask (nth t.mask (runAt t.mask (SetTable.bits (knd.hash k) % (t.mask + 1)) (SetTable.bits (knd.hash k))) c) q).j = way t.mask (knd.hash k) (c + q) := fun q => congrArg SetTable.Probe.j (sh q)
    have spec := go_spec t R.tab.ris R.tab.dm (fun i => (es[i]?.map (·.1)).getD 0) (knd.hash k) (10 * SetTable.turns t.mask) (K - c) _ nd0 (by omega)
      (fun q q0 => by rw [e1]; exact wb (c + q) (by omega)) (by rw [e1, show c + (K - c) = K by omega]; exact wK)
    have hashAt : ∀ (i : Nat) p, L[i]? = some p → (fun i => (es[i]?.map (·.1)).getD 0) i = knd.hash p.2 := fun i p p1 => by
      show (es[i]?.map (·.1)).getD 0 = _
      rw [R.entry p1] <;> rfl
    rcases spec with ⟨q, i, q0, i1, h0_, no1, pr1⟩ | ⟨no1, pr1⟩
    · -- a candidate
      have pr1' : t.probe (fun i => (es[i]?.map (·.1)).getD 0) (knd.hash k) (stand.getD (t.probeStart (knd.hash k))) = some (.candidate (way t.mask (knd.hash k) (c + q)) i (nth t.mask (runAt t.mask (SetTable.bits (knd.hash k) % (t.mask + 1)) (SetTable.bits (knd.hash k))) (c + (q + 1)))) := by
        rw [st1, ← e1, ← sh]
        exact pr1
      rw [pr1']
      dsimp only
      rw [e1] at i1
      -- the entry
      have il1 : i < L.length := by
        have h1 : i < t.place.toList.length := (List.getElem?_eq_some_iff.mp i1).1
        have h2 := R.tab.sz
        rw [List.length_map] at h2
        rw [Array.length_toList] at h1
        omega
      have p1 : L[i]? = some L[i] := List.getElem?_eq_getElem il1
      generalize pe1 : L[i] = p at p1
      have mm1 : p ∈ L := List.mem_of_getElem? p1
      have pt1 := R.tup p mm1
      have rest : wpAny (model P w) A (searchRest a (.ref x) (knd.hash k) true f es t (way t.mask (knd.hash k) (c + q)) i (nth t.mask (runAt t.mask (SetTable.bits (knd.hash k) % (t.mask + 1)) (SetTable.bits (knd.hash k))) (c + (q + 1)))) Q E s := by
        unfold searchRest
        rw [R.entry p1]
        dsimp only
        refine wpAny_bind (wpAny_holding (knd.eqBool hu pt1 kx ?_))
        refine wpAny_bind (wpAny_setState_of oo dd R.fits ?_)
        dsimp only
        by_cases kq1 : p.2 = k
        · refine wp_if_pos (by simp [kq1]) ?_
          refine wpAny_pure (in1_ ?_)
          exact List.mem_map.mpr ⟨p, mm1, kq1⟩
        · refine wp_if_neg (by simp [kq1]) ?_
          try refine wpAny_bind (wpAny_pure ?_)
          rw [sameMem]
          dsimp only
          have sl1 : t.slot (way t.mask (knd.hash k) (c + q)) = .live i := slot_live R.tab.ris i1
          simp only [if_true, sl1, R.entry p1]
          refine wpAny_bind (wpAny_isSame_ref_self (wpAny_bind (wpAny_pure ?_)))
          simp only [if_true]
          refine wp_if_neg (by simp [kq1]) ?_
          refine searchB_from R kx hu wf wK wb in1_ out1 f (c + (q + 1)) _ rfl (by omega) (by omega) fun i0 p0 h0 hk0 => ?_
          obtain ⟨c', a1, a2, a3⟩ := re1 i0 p0 h0 hk0
          refine ⟨c', ?_, a2, a3⟩
          -- it isn't passed
          rcases Nat.lt_or_ge c' (c + q) with z | z
          · exfalso
            refine no1 (c' - c) i0 (by omega) (by rw [e1, show c + (c' - c) = c' by omega]; exact a3) ?_
            exact (hashAt i0 p0 h0).trans (congrArg (knd.hash) hk0)
          · rcases Nat.lt_or_ge (c + q) c' with y | y
            · omega
            · exfalso
              have ec : c' = c + q := Nat.le_antisymm y z
              rw [ec] at a3
              have s0 := slot_live R.tab.ris a3
              rw [sl1] at s0
              injection s0 with s0
              rw [← s0, p1] at h0
              exact kq1 ((congrArg Prod.snd (Option.some.inj h0)).trans hk0)
      by_cases l1 : t.led = true
      · refine wp_if_neg (by simp [l1]) ?_
        try refine wpAny_bind (wpAny_pure ?_)
        exact rest
      · refine wp_if_pos (by simp [l1]) ?_
        refine wpAny_bind (seen_N ok kx (fun y hy => ?_) ?_)
        · obtain ⟨e, he, ee⟩ := List.mem_map.mp hy
          have he1 : e ∈ es ∧ e.1 = knd.hash k := by simpa using he
          have he2 : e ∈ es.toList := by simpa using he1.1
          rw [R.rows] at he2
          obtain ⟨p2, hp2, e2⟩ := List.mem_map.mp he2
          refine ⟨p2.2, p2.1, ?_, R.tup p2 hp2⟩
          rw [← ee, ← e2]
        · refine wp_if_neg (by decide) ?_
          try refine wpAny_bind (wpAny_pure ?_)
          exact rest
    · -- the empty slot
      have pr1' : t.probe (fun i => (es[i]?.map (·.1)).getD 0) (knd.hash k) (stand.getD (t.probeStart (knd.hash k))) = some (.empty (way t.mask (knd.hash k) K) none) := by
        have e2 : way t.mask (knd.hash k) K = (nth t.mask (nth t.mask (runAt t.mask (SetTable.bits (knd.hash k) % (t.mask + 1)) (SetTable.bits (knd.hash k))) c) (K - c)).j := by
          rw [e1, show c + (K - c) = K by omega]
        rw [st1, e2]
        exact pr1
      rw [pr1']
      dsimp only
      refine wpAny_pure (out1 fun m1 => ?_)
      obtain ⟨p0, h0, hk0⟩ := List.mem_map.mp m1
      obtain ⟨i0, hi0, e0⟩ := List.getElem_of_mem h0
      have h00 : L[i0]? = some p0 := by rw [List.getElem?_eq_getElem hi0, e0]
      obtain ⟨c', a1, a2, a3⟩ := re1 i0 p0 h00 hk0
      refine no1 (c' - c) i0 (by omega) (by rw [e1, show c + (c' - c) = c' by omega]; exact a3) ?_
      exact (hashAt i0 p0 h00).trans (congrArg (knd.hash) hk0)
/-- the search as adding asks for it -/
theorem searchB_at (R : SetBR knd s.heap a L es ep t) {x : Addr} {k : κ} (kx : knd.is s.heap k x) (hu : knd.room A) {Q : SetFound → Shared → Prop}
    (in1_ : k ∈ L.map (·.2) → Q (.there none) s)
    (out1 : ∀ K, k ∉ L.map (·.2) → way t.mask (knd.hash k) K ∉ t.place.toList → (∀ c, c < K → way t.mask (knd.hash k) c ∈ t.place.toList) → Q (.free (way t.mask (knd.hash k) K) false) s) :
    wpAny (model P w) A (setSearch a (.ref x) (knd.hash k) true) Q E s := by
  have rm1 := R.room
  obtain ⟨K, wf, wK, wb⟩ := R.tab.first (by rw [List.length_map]; omega) (knd.hash k)
  have bg1 : K < 100000 := by
    have : 10 * SetTable.turns t.mask ≤ 20620 := by
      unfold SetTable.turns
      have := R.tab.mok.le
      omega
    omega
  unfold setSearch
  refine searchB_from ok R kx hu wf wK wb in1_ (fun hn => out1 K hn wK wb) 100000 0 none rfl (Nat.zero_le _) (by omega) fun i p p1 kk1 => ?_
  have i1 : (L.map fun p => knd.hash p.2)[i]? = some (knd.hash k) := by rw [List.getElem?_map, p1, ← kk1] <;> rfl
  have il1 : i < t.place.toList.length := by
    have h1 : i < L.length := (List.getElem?_eq_some_iff.mp p1).1
    have h2 := R.tab.sz
    rw [List.length_map] at h2
    rw [Array.length_toList]
    omega
  have j1 := List.getElem?_eq_getElem il1
  obtain ⟨c, hc, e⟩ := R.tab.before wK i1 j1
  exact ⟨c, Nat.zero_le _, hc, by rw [j1, e]⟩
/-- the table laid anew, larger -/
theorem relayB_at {o : Obj} (oo : s.heap.get? a = some o) (ex1 : o.ExactSet) (dd : o.data = .set es ep t) (hrows : es.toList = rowsN knd L) (sz1 : t.place.size = es.size) (hdm : t.dummies = #[]) (hfl : es.size ≤ t.mask)
    (nd : (L.map (·.2)).Nodup) (tup : ∀ p ∈ L, knd.is s.heap p.2 p.1) (ld : w.params.followText "set-order" = true ∨ t.led = true) (few : L.length < 1000) {wanted M : Nat}
    (hw : SetTable.sizeAbove wanted - 1 = M) (hM : TabB.MaskB M) (hw2 : SetTable.sizeAbove wanted ≤ 2048) (hn : L.length * 5 < M * 3) {Q : Unit → Shared → Prop}
    (fQ : ∀ h' L' es' ep' t', Heap.SameBut a s.heap h' → SetBR knd h' a L' es' ep' t' → L'.Perm L → Q () { s with heap := h' }) : wpAny (model P w) A (setRelay a wanted) Q E s := by
  have sl1 : es.size = L.length := by
    have h := congrArg List.length hrows
    unfold rowsN at h
    rw [Array.length_toList, List.length_map] at h
    exact h
  have hfits : t.fits es.size = true := by
    unfold SetTable.fits SetTable.fill
    rw [hdm, Bool.and_eq_true, beq_iff_eq, decide_eq_true_eq]
    show t.place.size = es.size ∧ t.place.size + 0 ≤ t.mask
    omega
  obtain ⟨t', order, e, p1, T, em, el, ep', ed⟩ := TabB.laid_anew t (hs := es.map (·.1)) (wanted := wanted) hw hM (by rw [Array.size_map, sl1]; omega)
  rw [Array.size_map, sl1] at p1
  obtain ⟨L2, r1, r2, r3⟩ := order_rowsN L es order hrows p1
  rw [← r3] at T
  have hs2 : (order.filterMap (es[·]?)).size = es.size := by
    have h := congrArg List.length r1
    unfold rowsN at h
    rw [Array.length_toList, List.length_map, r2.length_eq] at h
    rw [h, sl1]
  rw [setRelay_eq]
  refine wpAny_bind (wpAny_setState_of oo dd hfits ?_)
  dsimp only
  refine wp_if_neg (by rw [sizeLine_eq]; omega) ?_
  try refine wpAny_bind (wpAny_pure ?_)
  rw [e]
  dsimp only
  refine wpAny_bind ?_
  refine wp_if_neg (by rw [hs2]; simp) ?_
  try refine wpAny_bind (wpAny_pure ?_)
  refine wpAny_pure ?_
  dsimp only
  refine wpAny_storeSet_of oo dd ?_ (by rw [hs2, sl1, sizeLine_eq]; omega)
  have sb : Heap.SameBut a s.heap (s.heap.update a (Obj.putSet (order.filterMap (es[·]?)) t')) := Heap.SameBut.update ..
  refine fQ _ L2 (order.filterMap (es[·]?)) (ep + 1) t' sb ?_ r2
  refine ⟨⟨_, store_at oo dd, ⟨ex1.1, ex1.2.1, ex1.2.2⟩, rfl⟩, r1, T, ?_, fun p hpm => ok.same (tup p (r2.mem_iff.mp hpm)) oo dd sb, by rw [el]; exact ld, ?_, by rw [r2.length_eq]; exact few⟩
  · exact (r2.map (·.2)).nodup_iff.mpr nd
  · rw [r2.length_eq, em]
    exact hn
/-- ADDING -/
theorem addB_at (R : SetBR knd s.heap a L es ep t) {x : Addr} {k : κ} (kx : knd.is s.heap k x) (hu : knd.room A) (fw1 : L.length + 1 < 1000) {Q : Bool → Shared → Prop}
    (fQ : ∀ b h' L' es' ep' t', Heap.SameBut a s.heap h' → SetBR knd h' a L' es' ep' t' → (k ∈ L.map (·.2) → L' = L) → (k ∉ L.map (·.2) → L'.Perm ((x, k) :: L)) → Q b { s with heap := h' }) :
    wpAny (model P w) A (setAddHashed a (.ref x) (knd.hash k)) Q E s := by
  obtain ⟨o, oo, ex1, dd⟩ := R.ob
  have sl1 := R.size
  have rm1 := R.room
  unfold setAddHashed
  refine wpAny_holding ?_
  rw [show (100000 : Nat) = 99999 + 1 from rfl, setAddHashedIn_succ]
  refine wpAny_bind (wpAny_setState_of oo dd R.fits ?_)
  dsimp only
  refine wp_if_neg (by simp [byScan, Value.scannable]) ?_
  try refine wpAny_bind (wpAny_pure ?_)
  refine wpAny_bind (searchB_at ok R kx hu (fun m1 => ?_) fun K m1 wK hb => ?_)
  · dsimp only
    exact wpAny_pure (fQ false s.heap L es ep t (Heap.SameBut.refl a s.heap) R (fun _ => rfl) fun z => absurd m1 z)
  · dsimp only
    refine wpAny_bind (wpAny_setState_of oo dd R.fits ?_)
    dsimp only
    obtain ⟨q1, q2, q3, q4, q5, q6, q7, q8, q9⟩ := R.tab.put wK hb
    generalize pt1 : t.put (way t.mask (knd.hash k) K) = pt at q1 q3 q4 q5 q6 q7 q8 q9 ⊢
    obtain ⟨t1, p⟩ := pt
    dsimp only at q1 q3 q4 q5 q6 q7 q8 q9 ⊢
    subst q1
    suffices key : ∀ byv : Bool, wpAny (model P w) A (do
        storeSet a (SetTable.insertAt es (SetTable.below t.place (way t.mask (knd.hash k) K)) (knd.hash k, Value.ref x)) (if byv = true then t1 else { t1 with plain := false })
        if (!false && (if byv = true then t1 else { t1 with plain := false }).tooFull) = true then do
          setRelay a (SetTable.grown (es.size + 1))
          pure true
        else pure true) Q E s from by
      by_cases hpl : t1.plain = true
      · exact wp_if_pos hpl (wpAny_bind (ok.val _ kx fun byv => key byv))
      · exact wp_if_neg hpl (wpAny_bind (wpAny_pure (key true)))
    intro byv
    have q3' : ∀ (b : Bool) (hs : List Int), TabB.TabB t1 hs → TabB.TabB (if b = true then t1 else { t1 with plain := false }) hs := fun b hs z => by
      cases b
      · exact ⟨z.1, z.2, z.3, z.4, z.5, z.6⟩
      · exact z
    have q4' : ∀ b : Bool, (if b = true then t1 else { t1 with plain := false }).mask = t1.mask := fun b => by cases b <;> rfl
    have q5' : ∀ b : Bool, (if b = true then t1 else { t1 with plain := false }).led = t1.led := fun b => by cases b <;> rfl
    have q9' : ∀ b : Bool, (if b = true then t1 else { t1 with plain := false }).fill = t1.fill := fun b => by cases b <;> rfl
    have q3 := q3' byv _ q3
    have q4 := (q4' byv).trans q4
    have q5 := (q5' byv).trans q5
    have q9 := (q9' byv).trans q9
    generalize hb2 : (if byv = true then t1 else { t1 with plain := false }) = t2 at q3 q4 q5 q9 ⊢
    have in1_ : (SetTable.insertAt es (SetTable.below t.place (way t.mask (knd.hash k) K)) (knd.hash k, Value.ref x)).toList = rowsN knd (L.take (SetTable.below t.place (way t.mask (knd.hash k) K)) ++ (x, k) :: L.drop (SetTable.below t.place (way t.mask (knd.hash k) K))) := by
      rw [SetTable.toList_insertAt, rows_putN, R.rows]
    generalize pp1 : SetTable.below t.place (way t.mask (knd.hash k) K) = p at q2 q3 in1_ ⊢
    have pm := put_permN L p (x, k)
    have len1 : (L.take p ++ (x, k) :: L.drop p).length = L.length + 1 := pm.length_eq
    have hs1 : (L.take p ++ (x, k) :: L.drop p).map (fun p => knd.hash p.2) = (L.map fun p => knd.hash p.2).take p ++ knd.hash k :: (L.map fun p => knd.hash p.2).drop p := by
      rw [List.map_append, List.map_cons, List.map_take, List.map_drop]
    rw [← hs1] at q3
    have nd1 : ((L.take p ++ (x, k) :: L.drop p).map (·.2)).Nodup := by
      refine (pm.map (·.2)).nodup_iff.mpr ?_
      rw [List.map_cons]
      exact List.nodup_cons.mpr ⟨m1, R.nd⟩
    have es0 : (SetTable.insertAt es p (knd.hash k, Value.ref x)).size = L.length + 1 := by
      have h := congrArg List.length in1_
      unfold rowsN at h
      rw [Array.length_toList, List.length_map, len1] at h
      exact h
    generalize SetTable.insertAt es p (knd.hash k, Value.ref x) = es1 at in1_ es0 ⊢
    generalize L.take p ++ (x, k) :: L.drop p = L1 at pm len1 q3 nd1 in1_
    refine wpAny_bind (wpAny_storeSet_of oo dd ?_ (by rw [es0, sizeLine_eq]; omega))
    have sb : Heap.SameBut a s.heap (s.heap.update a (Obj.putSet es1 t2)) := Heap.SameBut.update ..
    have ho1 := store_at (es' := es1) (t' := t2) oo dd
    generalize s.heap.update a (Obj.putSet es1 t2) = h1 at sb ho1 ⊢
    have tup1 : ∀ p ∈ L1, knd.is h1 p.2 p.1 := fun p p1 => by
      rcases List.mem_cons.mp (pm.mem_iff.mp p1) with e | p1
      · rw [e]; exact ok.same kx oo dd sb
      · exact ok.same (R.tup p p1) oo dd sb
    have ld0 : w.params.followText "set-order" = true ∨ t2.led = true := by rw [q5]; exact R.led
    by_cases f1 : t2.tooFull = true
    · first
        | (refine wpAny_bind ?_; refine wp_if_pos (by simp [f1]) ?_)
        | (refine wp_if_pos (by simp [f1]) ?_; refine wpAny_bind ?_)
      have full1 : (L.length + 1) * 5 ≥ t2.mask * 3 := by
        have h := f1
        unfold SetTable.tooFull at h
        rw [decide_eq_true_eq, q9, List.length_map] at h
        exact h
      rw [sl1]
      have sz0 : t2.place.size = es1.size := by
        have h := q3.sz
        rw [List.length_map, len1] at h
        rw [h, es0]
      have cases2 : (t.mask = 7 ∧ L.length = 4) ∨ (t.mask = 31 ∧ L.length = 18) ∨ (t.mask = 127 ∧ L.length = 76) ∨ (t.mask = 511 ∧ L.length = 306) := by
        rcases R.tab.mok with e | e | e | e | e
        · left; rw [q4, e] at full1; rw [e] at rm1; exact ⟨e, by omega⟩
        · right; left; rw [q4, e] at full1; rw [e] at rm1; exact ⟨e, by omega⟩
        · right; right; left; rw [q4, e] at full1; rw [e] at rm1; exact ⟨e, by omega⟩
        · right; right; right; rw [q4, e] at full1; rw [e] at rm1; exact ⟨e, by omega⟩
        · exfalso; rw [q4, e] at full1; omega
      have go1 : ∀ M, SetTable.sizeAbove (SetTable.grown (L.length + 1)) - 1 = M → TabB.MaskB M → SetTable.sizeAbove (SetTable.grown (L.length + 1)) ≤ 2048 → (L.length + 1) * 5 < M * 3 →
          wpAny (model P w) A (setRelay a (SetTable.grown (L.length + 1))) (fun _ s' => wpAny (model P w) A (pure true) Q E s') E { s with heap := h1 } := fun M h1' h2' h3' h4' => by
        refine relayB_at ok (s := { s with heap := h1 }) ho1 ⟨ex1.1, ex1.2.1, ex1.2.2⟩ rfl in1_ sz0 q3.dm (by rw [es0, q4]; rcases cases2 with ⟨e, e2⟩ | ⟨e, e2⟩ | ⟨e, e2⟩ | ⟨e, e2⟩ <;> omega) nd1 tup1 ld0 (by rw [len1]; exact fw1) h1' h2' h3' (by rw [len1]; exact h4') ?_
        intro h2 L2 es2 ep2 t3 sb2 R2 pm2
        refine wpAny_pure (fQ true h2 L2 es2 ep2 t3 (sb.trans sb2) R2 (fun z => absurd z m1) fun _ => pm2.trans pm)
      rcases cases2 with ⟨_, e2⟩ | ⟨_, e2⟩ | ⟨_, e2⟩ | ⟨_, e2⟩
      · refine go1 31 (by rw [e2, size_20]) (.inr (.inl rfl)) (by rw [e2, size_20]; decide) (by omega)
      · refine go1 127 (by rw [e2, size_76]) (.inr (.inr (.inl rfl))) (by rw [e2, size_76]; decide) (by omega)
      · refine go1 511 (by rw [e2, TabB.size_308]) (.inr (.inr (.inr (.inl rfl)))) (by rw [e2, TabB.size_308]; decide) (by omega)
      · refine go1 2047 (by rw [e2, TabB.size_1228]) (.inr (.inr (.inr (.inr rfl)))) (by rw [e2, TabB.size_1228]; decide) (by omega)
    · first
        | refine wp_if_neg (by simp [f1]) ?_
        | (refine wpAny_bind ?_; refine wp_if_neg (by simp [f1]) ?_; refine wpAny_pure ?_)
      refine wpAny_pure (fQ true h1 L1 es1 (ep + 1) t2 sb ⟨⟨_, ho1, ⟨ex1.1, ex1.2.1, ex1.2.2⟩, rfl⟩, in1_, q3, nd1, tup1, ld0, ?_, by rw [len1]; exact fw1⟩ (fun z => absurd z m1) fun _ => pm)
      have h := f1
      unfold SetTable.tooFull at h
      rw [decide_eq_true_eq, q9, List.length_map] at h
      rw [len1]
      omega
omit ok in
theorem SetBR.keep {h h' : Heap} {a : Addr} {L : List (Addr × κ)} {es : Array (Int × Value)} {ep : Nat} {t : SetTable} (R : SetBR knd h a L es ep t) (ha : ∀ o, h.get? a = some o → h'.get? a = some o) (ht : ∀ p ∈ L, knd.is h' p.2 p.1) : SetBR knd h' a L es ep t := by
  obtain ⟨o, oo, r⟩ := R.ob
  exact ⟨⟨o, ha o oo, r⟩, R.rows, R.tab, R.nd, ht, R.led, R.room, R.few⟩
omit ok in
/-- a new set -/
theorem setBR_fresh {h : Heap} {a : Addr} (oo : h.get? a = some { cls := .type "set", dict := none, data := .set #[] 0 (.fresh 0 0 (!w.params.followText "set-order")) }) : SetBR knd h a [] #[] 0 (.fresh 0 0 (!w.params.followText "set-order")) where
  ob := ⟨_, oo, ⟨rfl, rfl, rfl⟩, rfl⟩
  rows := rfl
  tab := ⟨List.Pairwise.nil, rfl, rfl, .inl rfl, fun x kx => (by cases kx), fun i h j i1 => (by simp at i1)⟩
  nd := List.nodup_nil
  tup := fun p p1 => (by cases p1)
  led := by
    show _ ∨ (!w.params.followText "set-order") = true
    cases w.params.followText "set-order"
    · exact .inr rfl
    · exact .inl rfl
  room := by
    show 0 * 5 < 7 * 3
    decide
  few := by
    show 0 < 1000
    decide
/-- set.update's loop -/
theorem set_update_B {I : Addr} {fp wr : List Addr} {G : Array GenState → Array GenState → Prop} {n : Nat} {Pv : Nat → Value → Prop} {St : Nat → Shared → Prop} {R : Result → Shared → Prop}
    (W : WalksS P w A.in1 I fp wr G n Pv St) (S : Addr) (Sf1 : S ∉ fp) (ks : List (Addr × κ)) (hn : n = ks.length) (fw1 : ks.length < 1000) (val1 : ∀ i v, Pv i v → ∃ p, ks[i]? = some p ∧ v = .ref p.1)
    (h0 : Heap) (kk1 : ∀ p ∈ ks, knd.is h0 p.2 p.1) (S01 : h0.get? S = none) (w01 : ∀ b ∈ wr, h0.get? b = none) (hu : knd.room A.in1) :
    ∀ (k i : Nat) (s : Shared), n - i = k → i ≤ n → St i s → (∀ b o, h0.get? b = some o → s.heap.get? b = some o) → (∃ L es ep t, SetBR knd s.heap S L es ep t ∧ GotN ks i L) →
      (∀ s' L es ep t, Moved (S :: wr) G s s' → SetBR knd s'.heap S L es ep t → GotN ks n L → (∀ b o, h0.get? b = some o → s'.heap.get? b = some o) → R (.ok (.ret .none)) s') →
      codeAny (model P w) A (.builtin "set.update.loop" ⟨[.ref S, .ref I], []⟩) R s := by
  have Sw1 : S ∉ wr := fun h => Sf1 (W.sub _ h)
  have sub1 : ∀ b ∈ wr, b ∈ S :: wr := fun b hb => List.mem_cons_of_mem _ hb
  have kpM : ∀ {s s' : Shared}, Moved wr G s s' → (∀ b o, h0.get? b = some o → s.heap.get? b = some o) → ∀ b o, h0.get? b = some o → s'.heap.get? b = some o := fun m1 kp1 b o e =>
    m1.heap b o (fun hb => by rw [w01 b hb] at e; cases e) (kp1 b o e)
  intro k
  induction k with
  | zero =>
    intro i s kk1' i1 st1 kp1 ⟨L, es, ep, t, S1, g⟩ fR
    have in1_ : i = n := by omega
    subst in1_
    refine codeAny_builtin F.entry_set_update_loop ?_
    rw [Around.under_plainId F.plain_set_update_loop _]
    show wpAny _ A.in1 (pyNext (.ref I) >>= _) _ _ s
    refine wpAny_bind (W.done s _ _ st1 fun s' m1 => ?_)
    show wpAny _ A.in1 (ret Value.none) _ _ s'
    have kp1' := kpM m1 kp1
    have sub : ∀ p ∈ L, p ∈ ks := fun p p1 => List.mem_of_mem_take (g.sub p p1)
    exact wpAny_pure (fR s' L es ep t (m1.mono sub1) (S1.keep (fun o e => m1.heap S o Sw1 e) fun p p1 => ok.keep (kk1 p (sub p p1)) kp1') g kp1')
  | succ k ih =>
    intro i s kk1' i1 st1 kp1 ⟨L, es, ep, t, S1, g⟩ fR
    have hlt : i < n := by omega
    refine codeAny_builtin F.entry_set_update_loop ?_
    rw [Around.under_plainId F.plain_set_update_loop _]
    show wpAny _ A.in1 (pyNext (.ref I) >>= _) _ _ s
    refine wpAny_bind (W.item i s _ _ hlt st1 fun v s' hP st1' m1 => ?_)
    obtain ⟨p, p1, rfl⟩ := val1 i v hP
    have kp1' := kpM m1 kp1
    have sub : ∀ p ∈ L, p ∈ ks := fun p p1 => List.mem_of_mem_take (g.sub p p1)
    have S1' : SetBR knd s'.heap S L es ep t := S1.keep (fun o e => m1.heap S o Sw1 e) fun q q0 => ok.keep (kk1 q (sub q q0)) kp1'
    have kx : knd.is s'.heap p.2 p.1 := ok.keep (kk1 p (List.mem_of_getElem? p1)) kp1'
    show wpAny _ A.in1 (holding [Value.ref p.1] (setAdd S (.ref p.1)) >>= _) _ _ s'
    refine wpAny_bind (wpAny_holding ?_)
    unfold setAdd
    refine wpAny_holding ?_
    refine wpAny_bind (knd.pyHash hu kx ?_)
    refine addB_at ok (s := { s' with toks := s'.toks + knd.draws p.2 }) S1' kx hu (by have := g.len; omega) fun b h' L' es' ep' t' sb1 S21 c1 c2 => ?_
    have g' : GotN ks (i + 1) L' := by
      rcases Classical.em (p.2 ∈ L.map (·.2)) with c | c
      · rw [c1 c]; exact g.same p1 c
      · exact g.more p1 (c2 c)
    have hkp2 : ∀ b o, h0.get? b = some o → h'.get? b = some o := fun b o e => (sb1.2 b (fun z => by rw [z, S01] at e; cases e)).trans (kp1' b o e)
    refine wpAny_pure ⟨plainId_quiet F.plain_set_update_loop _, ih (i + 1) _ (by omega) hlt (W.frame _ s' _ _ st1' (Nat.le_add_right _ _) fun b hb o e => ?_) hkp2 ⟨L', es', ep', t', S21, g'⟩ fun s'' L2 es2 ep2 t2 m1'' S1'' g'' kp1'' => ?_⟩
    · rw [sb1.2 b (fun h : b = S => Sf1 (by rw [← h]; exact hb))]; exact e
    · refine fR s'' L2 es2 ep2 t2 (Moved.trans W.gtrans ((m1.mono sub1).then_heap (Nat.le_add_right _ _) fun b o hb e => ?_) m1'') S1'' g'' kp1''
      rw [sb1.2 b (fun h : b = S => hb (by rw [h]; exact List.mem_cons_self))]; exact e
set_option maxRecDepth 100000 in
set_option maxHeartbeats 3200000 in
/-- set(xs) -/
theorem call_set_B {l : Addr} {items : Array Value} (ks : List (Addr × κ)) {Q : Value → Shared → Prop} (h0_ : A.handled = none) (l1 : s.heap.IsList l items) (it1 : items.toList = ks.map fun p => Value.ref p.1)
    (kk1 : ∀ p ∈ ks, knd.is s.heap p.2 p.1) (fw1 : ks.length < 1000) (hu : knd.room A.in1.in1.in1)
    (h : ∀ (h' : Heap) (tk : Nat) L es ep t, SetBR knd h' s.heap.objs.size L es ep t → GotN ks ks.length L → (∀ b o, s.heap.get? b = some o → h'.get? b = some o) → Q (.ref s.heap.objs.size) { s with heap := h', toks := tk }) :
    wpAny (model P w) A (call (.type "set") [.ref l]) Q E s := by
  have isz1 : items.size = ks.length := by
    have q := congrArg List.length it1
    rw [Array.length_toList, List.length_map] at q
    exact q
  obtain ⟨c, tl, mro1⟩ := F.called_set.mro
  have md1 := F.called_set.made
  have sub1 := F.called_set.sub
  refine wpAny_call (codeAny_of_tree ?_)
  show wpAny _ _ (callAny (.type "set") _) _ _ _
  refine wpAny_pure ⟨Code.quiet_builtin _ (by decide +kernel), codeAny_builtin F.entry_type_call ?_⟩
  rw [Around.under_plain (weight_type_call_type "set" [.ref l] []) rfl]
  have h1 := F.called_set.notType
  have h2 := F.called_set.canCreate
  have ct1 := F.typeCall_set_1 (.ref l)
  repeat (any_goals (first | assumption | wp_step))

  refine codeAny_mono (code_set_led1 (.ref l) (E := E) (Q₁ := fun obj s₁ => obj = .ref s.heap.objs.size ∧ s₁ = { s with heap := s.heap.push { cls := .type "set", dict := none, data := .set #[] 0 (.fresh 0 0 (!w.params.followText "set-order")) } }) ⟨rfl, rfl⟩) fun r s₁ r0 => ?_
  cases r with
  | error e => exact r0
  | ok fl =>
    cases fl with
    | ret obj =>
      obtain ⟨rfl, rfl⟩ := r0
      have S1 : (s.heap.push { cls := .type "set", dict := none, data := .set #[] 0 (.fresh 0 0 (!w.params.followText "set-order")) }).get? s.heap.objs.size = some { cls := .type "set", dict := none, data := .set #[] 0 (.fresh 0 0 (!w.params.followText "set-order")) } := Heap.get?_push_size _ rfl
      have T1 : Shared.TypeIs { s with heap := s.heap.push { cls := .type "set", dict := none, data := .set #[] 0 (.fresh 0 0 (!w.params.followText "set-order")) } } (.ref s.heap.objs.size) "set" := ⟨_, S1, rfl⟩
      have li1 := F.called_set.init.lookup
      have bi1 := F.called_set.init.bind (.ref s.heap.objs.size)
      repeat (any_goals (first | assumption | wp_step))

      refine codeAny_mono (codeAny_call_builtin (R := wants (fun r s₂ => r = .none ∧ ∃ h' tk L es ep t, s₂ = { s with heap := h', toks := tk } ∧ SetBR knd h' s.heap.objs.size L es ep t ∧ GotN ks ks.length L ∧
          (∀ b o, s.heap.get? b = some o → h'.get? b = some o)) E) F.called_set.init.plain F.entry_set_init (check_set_init_1 T1 ?_)) fun r₂ s₂ hr₂ => ?_
      · obtain ⟨ol, ol1, cl1, nl, dl1⟩ := l1
        obtain ⟨ocls, odict, odata, oslots⟩ := ol
        simp only at cl1 dl1
        subst cl1; subst dl1
        have ol1' : (s.heap.push { cls := .type "set", dict := none, data := .set #[] 0 (.fresh 0 0 (!w.params.followText "set-order")) }).get? l = some { cls := .type "list", dict := odict, data := .seq items nl, slots := oslots } := Heap.get?_push_of_some _ ol1
        have ss1 := F.sub_list_set
        have sf1 := F.sub_list_frozenset
        have ne1 : (Value.type "list" == Value.type "dict") = false := by decide
        have hl1 : (s.heap.push { cls := .type "set", dict := none, data := .set #[] 0 (.fresh 0 0 (!w.params.followText "set-order")) }).IsList l items := ⟨_, ol1', rfl, nl, rfl⟩
        unfold Builtin.«set.__init__» noKeywords Builtin.Frozenset.updateFrom
        generalize PI1 : pyIter = PI
        wp_walk
        subst PI1

        refine wpAny_pyIter_list hl1 ?_
        refine wpAny_bind (wpAny_runValue ?_)
        have lS1 : l < s.heap.objs.size := Heap.lt_size ol1
        have h31 : A.in1.in1.in1.handled = none := by simp [h0_]
        have z11 : (s.heap.push { cls := .type "set", dict := none, data := .set #[] 0 (.fresh 0 0 (!w.params.followText "set-order")) }).objs.size = s.heap.objs.size + 1 := Heap.size_push ..
        have nI1 : l ≠ (s.heap.push { cls := .type "set", dict := none, data := .set #[] 0 (.fresh 0 0 (!w.params.followText "set-order")) }).objs.size := by
          rw [Heap.size_push]; exact Nat.ne_of_lt (Nat.lt_succ_of_lt lS1)
        have Sf1 : s.heap.objs.size ∉ [(s.heap.push { cls := .type "set", dict := none, data := .set #[] 0 (.fresh 0 0 (!w.params.followText "set-order")) }).objs.size, l] := by
          rw [Heap.size_push]; simp only [List.mem_cons, List.mem_singleton, List.not_mem_nil, or_false, not_or]
          exact ⟨Nat.ne_of_lt (Nat.lt_succ_self _), Nat.ne_of_gt lS1⟩
        have val1 : ∀ (i : Nat) (v : Value), items[i]? = some v → ∃ p, ks[i]? = some p ∧ v = .ref p.1 := fun i v hv => by
          have q : items.toList[i]? = some v := by rw [Array.getElem?_toList]; exact hv
          rw [it1, List.getElem?_map] at q
          cases q0 : ks[i]? with
          | none => rw [q0] at q; cases q
          | some p =>
            rw [q0] at q
            exact ⟨p, rfl, (Option.some.inj q).symm⟩
        have none_of : ∀ b, s.heap.objs.size ≤ b → s.heap.get? b = none := fun b hb => by
          cases q : s.heap.get? b with
          | none => rfl
          | some o => exact absurd (Nat.lt_of_lt_of_le (Heap.lt_size q) hb) (Nat.lt_irrefl _)
        refine set_update_B ok ((Walks.list h31 _ l nI1 items).toS) s.heap.objs.size
          Sf1 ks isz1 fw1 val1 s.heap kk1 (none_of _ (Nat.le_refl _)) (fun b hb => none_of b (by
            rw [List.mem_singleton.mp hb, Heap.size_push]
            exact Nat.le_succ _)) hu (items.size - 0) 0 _ (by omega) (Nat.zero_le _)
          ⟨⟨_, Heap.get?_push_size _ rfl, rfl, rfl⟩, (hl1.push _)⟩ (fun b o e => Heap.get?_push_of_some _ (Heap.get?_push_of_some _ e)) ?S01 ?fR
        case S01 =>
          have get1 : ((s.heap.push { cls := .type "set", dict := none, data := .set #[] 0 (.fresh 0 0 (!w.params.followText "set-order")) }).push { cls := .type "list_iterator", data := .fields #[.ref l, .int 0 0] }).get? s.heap.objs.size
              = some { cls := .type "set", dict := none, data := .set #[] 0 (.fresh 0 0 (!w.params.followText "set-order")) } := Heap.get?_push_of_some _ S1
          exact ⟨[], #[], 0, _, setBR_fresh get1, GotN.zero ks⟩
        case fR =>
          intro s' L es ep t m1 S1' g' kp1
          obtain ⟨h', g2, d', tk', os'⟩ := s'
          have eg : g2 = s.gens := m1.gens
          have ed : d' = s.drawn := m1.drawn
          have eo : os' = s.os := m1.os
          subst eg; subst ed; subst eo
          show wpAny _ _ _ _ _ _
          refine wpAny_pure ?_
          show wpAny _ _ (ret Value.none) _ _ _
          rw [isz1] at g'
          exact wpAny_pure ⟨rfl, h', tk', L, es, ep, t, rfl, S1', g', kp1⟩

      · cases r₂ with
        | error e => exact hr₂
        | ok fl₂ =>
          cases fl₂ with
          | ret r =>
            obtain ⟨rfl, h', tk, L, es, ep, t, rfl, S1', g', kk1'⟩ := hr₂
            repeat (any_goals (first | assumption | wp_step))
            exact h _ _ _ _ _ _ S1' g' kk1'
          | _ => exact hr₂.elim
    | _ => exact r0.elim
end
end Hap
namespace Hap
open PySem PySem.Spec PyProof.Rows L2
variable [TabC]
def rLenSetB (K : PySem.W.Frag) : V → Hp → VK → Prop := fun x H Q => ∃ (l : Addr) (xs : List V) (ks : List NestedKey), x = .ref l ∧ SqL K H l xs ∧ NkVs K H ks xs ∧ ks.length < 1000 ∧ (∀ k ∈ ks, isTupK k = true ∧ k.depth ≤ 8) ∧ Q (.int (dist ks).length) H
theorem pe_lenSetB {X : Cx} {a : Expr} {ta : TE} {p p2 q pos : Pos} (hc : X.calm = true) (hu : X.A.units + 64 < cLine) (hg : Gl X "len") (hm : X.mg "len" = none) (hg2 : Gl X "set") (hm2 : X.mg "set" = none) (ha : PE X a ta)
    (na : starEach [a] X.env = (false, eval a X.env) :: starEach [] X.env := by rfl) : PE X (.Call (.Name "len" p) [.Call (.Name "set" p2) [a] [] q] [] pos) (fun σ H Q => ta σ H fun x H1 => rLenSetB X.K x H1 Q) := by
  refine ⟨fun pins s σ H Q I h => ?_⟩
  refine Call_ (ld_blt I hg hm boot_len ?_)
  refine PyProof.Rows.callWith_builtin1 (PyProof.Rows.args_cons ?_ rfl) rfl rfl
  refine Call_ (ld_blt I hg2 hm2 PyProof.Rows.boot_set ?_)
  refine PyProof.Rows.callWith_type1 (PyProof.Rows.args_cons (thn (ha.run pins s σ H _ I h) fun v s1 ⟨x, H1, I1, r1, q1⟩ => PyProof.Rows.args_nil ?_) na) na rfl
  obtain ⟨l, xs, ms, rfl, sq, nk, few, tu, q1⟩ := q1
  cases r1
  obtain ⟨as, rfl, la, hz⟩ := nkVs_refsN nk fun k hk => (tu k hk).1
  obtain ⟨its, rv, pl, _⟩ := I1.list sq
  have ei := vals_refs rv
  have lk : (as.zip ms).length = ms.length := by rw [List.length_zip, la, Nat.min_self]
  have hit : its.toArray.toList = (as.zip ms).map fun p => Value.ref p.1 := by
    rw [List.toList_toArray, ei]
    have e : (fun p : Addr × NestedKey => Value.ref p.1) = Value.ref ∘ Prod.fst := rfl
    rw [e, ← List.map_map, List.map_fst_zip (by omega)]
  have hk : ∀ p ∈ as.zip ms, (nestedKind X.prog X.w).is s1.heap p.2 p.1 := fun p hp => ⟨(nested_of I1 _ _ _ (hz p hp) rfl).1, (tu p.2 (List.of_mem_zip hp).2).2⟩
  refine call_set_B (nestedSet (P := X.prog) (w := X.w)) (as.zip ms) (I1.ok.hd hc) pl.isList hit hk (by omega) (by show X.A.in1.in1.in1.units + 8 < cLine; have e : X.A.in1.in1.in1.units = X.A.units + 3 := rfl; omega) fun h' tk L es ep t R g k => ?_
  refine PyProof.Rows.args_nil ?_
  have I2 : Inv X pins σ H1 { s1 with heap := h', toks := tk } := I1.kept k
  obtain ⟨o, oo, ex, od⟩ := R.ob
  have e : es.size = (dist ms).length := by
    rw [SetBR.size (s := { s1 with heap := h', toks := tk }) R, ← List.length_map (f := (·.2))]
    refine dist_len R.nd fun m => ⟨fun hm => ?_, fun hm => ?_⟩
    · obtain ⟨p, hp, rfl⟩ := List.mem_map.mp hm
      exact (List.of_mem_zip (List.mem_of_mem_take (g.sub p hp))).2
    · obtain ⟨i, hi, e⟩ := List.getElem_of_mem hm
      have hp : (as[i]'(by omega), m) ∈ as.zip ms := by
        have : (as.zip ms)[i]'(by rw [List.length_zip]; omega) = (as[i]'(by omega), ms[i]) := by simp
        rw [← e, ← this]
        exact List.getElem_mem _
      exact g.all _ (by rw [List.take_length]; exact hp)
  have fw := SetBR.size (s := { s1 with heap := h', toks := tk }) R
  have fw2 := R.few
  exact call_len_set oo ex od (SetBR.fits (s := { s1 with heap := h', toks := tk }) R) (by omega) ⟨.int (dist ms).length, H1, I2.tok _, ⟨_, by rw [e]⟩, q1⟩
def gLenSetB (d : D) : Option D := (lstOf d).bind fun xs => (nksOf xs).bind fun ks => if ks.length < 1000 ∧ (ks.all fun k => isTupK k && decide (k.depth ≤ 8)) = true then some (.int (dist ks).length) else none
theorem vLenSetB {K : PySem.W.Frag} : VOp1 K (rLenSetB K) gLenSetB := by
  intro P H d v x Q pin r g h
  unfold gLenSetB at g
  cases e1 : lstOf d with
  | none => rw [e1] at g; cases g
  | some xs =>
    rw [e1] at g
    simp only [Option.bind] at g
    cases e2 : nksOf xs with
    | none => rw [e2] at g; cases g
    | some ks =>
      rw [e2] at g
      simp only at g
      split at g
      · rename_i c
        cases g
        obtain ⟨p, ws, rfl, s, r2⟩ := lstOf_read r e1
        refine ⟨p, ws, ks, rfl, s, nkVs_of r2 e2, c.1, fun k hk => ?_, h _ _ _ _ New.refl .int⟩
        have := List.all_eq_true.mp c.2 k hk
        simpa using this
      · cases g
section
variable {X : Cx} {RX : RXR} {W : WX} {a : Expr} {f : Ev → R D} {p p2 q pos : Pos}
theorem de_lenSetB (hc : X.calm = true) (hu : X.A.units + 64 < cLine) (hg : Gl X "len") (hm : X.mg "len" = none) (hg2 : Gl X "set") (hm2 : X.mg "set" = none) (ha : DE X RX W a f) (na : starEach [a] X.env = (false, eval a X.env) :: starEach [] X.env := by rfl) :
    DE X RX W (.Call (.Name "len" p) [.Call (.Name "set" p2) [a] [] q] [] pos) (fOp1 gLenSetB f) := pe_imp (pe_lenSetB hc hu hg hm hg2 hm2 ha na) fun σ H Q z => e_op1 vLenSetB z
end
end Hap
namespace Hap
open PySem PySem.Spec PyProof.Rows L2
variable [TabC]
def iLT (K : PySem.W.Frag) (tl : TE) : TI := fun σ H R => tl σ H fun x H1 => ∃ a, x = .ref a ∧ (((∃ xs, SqL K H1 a xs) ∧ R (Itl K a) H1) ∨ ((∃ xs, SqT K H1 a xs) ∧ R (Itt K a) H1))
theorem pi_lt {X : Cx} {tg l : Expr} {tl : TE} (hl : PE X l tl) : PI X tg l (iLT X.K tl) := by
  refine ⟨fun pins s σ H R I h => ?_⟩
  refine thn (hl.run pins s σ H _ I h) fun v s1 ⟨x, H1, I1, r1, q1⟩ => ?_
  obtain ⟨a, e, q1⟩ := q1
  subst e
  cases r1
  have fp : ∀ b, b ∈ [s1.heap.objs.size] → b = s1.heap.objs.size := fun b hb => by simpa using hb
  rcases q1 with ⟨⟨xs, hq⟩, q⟩ | ⟨⟨xs, hq⟩, q⟩
  · obtain ⟨its, rv, p, hz⟩ := I1.list hq
    refine wpAny_pyIter_list p.isList ?_
    exact ⟨s1.heap.objs.size, [s1.heap.objs.size], _, _, H1, rfl, I1.kept (t' := s1.toks) fun b o e => Heap.get?_push_of_some _ e, turn_list a _, ⟨_, Heap.get?_push_size _ rfl, rfl, rfl⟩, fun b hb => by
      rw [fp b hb]; exact I1.fpOk (Nat.le_refl _) (I1.hok.fresh (Nat.le_refl _)), q⟩
  · obtain ⟨its, rv, p, hz⟩ := I1.tuple hq
    refine wpAny_pyIter_tuple (show s1.heap.IsTuple a its.toArray from p) ?_
    exact ⟨s1.heap.objs.size, [s1.heap.objs.size], _, _, H1, rfl, I1.kept (t' := s1.toks) fun b o e => Heap.get?_push_of_some _ e, turn_tuple a _, ⟨_, Heap.get?_push_size _ rfl, rfl, rfl⟩, fun b hb => by
      rw [fp b hb]; exact I1.fpOk (Nat.le_refl _) (I1.hok.fresh (Nat.le_refl _)), q⟩
def itemsX (d : D) : Option (List D) := match d with
  | .tup ds => some (frzs ds)
  | .lst _ ds => some (frzs ds)
  | .rol ds => some ds
  | _ => none
@[simp] theorem itemsX_t {ds : List D} : itemsX (.tup ds) = some (frzs ds) := rfl
@[simp] theorem itemsX_l {o : Bool} {ds : List D} : itemsX (.lst o ds) = some (frzs ds) := rfl
section
variable {X : Cx} {RX : RXR} {W : WX} {tg e : Expr}
theorem di_lt {f : Ev → R D} (h : DE X RX W e f) : DI X RX W tg e (fIt itemsX f) := by
  refine pi_imp (pi_lt h) fun σ H Q q => ?_
  obtain ⟨P, ρ, FE, S, q⟩ := q
  refine ⟨P, ρ, FE, S, ?_⟩
  unfold fIt at q
  cases e : f ρ with
  | ok d ρ1 =>
    simp only [e, R.bind] at q
    intro v P1 H1 FE1 F1 S1 T1 t1
    cases e2 : itemsX d with
    | none => simp only [e2, R.of] at q
    | some ds =>
      simp only [e2, R.of] at q
      have lst : itemsL d = some ds → ∃ a, v = .ref a ∧ (((∃ xs, SqL X.K H1 a xs) ∧ Q (Itl X.K a) H1) ∨ ((∃ xs, SqT X.K H1 a xs) ∧ Q (Itt X.K a) H1)) := fun e3 => by
        obtain ⟨p, ev, hs, im⟩ := itemsL_im T1 e3
        exact ⟨p, ev, .inl ⟨hs, q _ _ H1 FE1 (S1.give fun b z => ⟨(T1.own b z).1, (T1.own b z).2.2⟩) t1.give (walks_list im)⟩⟩
      cases d with
      | tup ds' =>
        cases e2
        obtain ⟨r, own⟩ := T1
        cases r with
        | tup h0 p rs => exact ⟨_, rfl, .inr ⟨⟨_, .inl (.inl h0)⟩, q _ _ H1 FE1 (S1.give fun b z => ⟨(own b z).1, (own b z).2.2⟩) t1.give (walks_tup ⟨_, h0, .inl p, rls_frz rs (fun b z => .inl z) fun b z => .inr z⟩)⟩⟩
      | lst o ds' => exact lst e2
      | rol ds' => exact lst e2
      | _ => cases e2
  | exc x ρ1 => simp only [e, R.bind] at q; exact q
  | stk => simp only [e, R.bind] at q
end
end Hap
namespace Law
open PySem PySem.Spec PyProof.Rows L2 Hap M
def top (i : Nat) : Stmt := PySem.Challenge.pw_handsapart_k44_tables_known.main.body.getD i (.Pass ⟨0, 0, 0, 0⟩)
abbrev s__law_take : Stmt := top 25
theorem sc__law_take : FnScope ["_law_bag_here", "_law_many", "_law_digit"] ["_law_bag_here", "_law_many"] (defScope s__law_take) := ⟨rfl, rfl, rfl, by decide +kernel, rfl, by decide +kernel, by decide +kernel⟩
abbrev s__law_house : Stmt := top 26
theorem sc__law_house : FnScope ["_law_bag_here", "_law_hands", "_law_many", "_law_few", "_law_letters", "_law_at", "_law_k", "_law_bits", "_law_hand"] ["_law_bag_here"] (defScope s__law_house) := ⟨rfl, rfl, rfl, by decide +kernel, rfl, by decide +kernel, by decide +kernel⟩
abbrev s__law_bag : Stmt := top 24
theorem sc__law_bag : FnScope ["_law_cell_here"] ["_law_cell_here"] (defScope s__law_bag) := ⟨rfl, rfl, rfl, by decide +kernel, rfl, by decide +kernel, by decide +kernel⟩
abbrev s__law_cell : Stmt := top 23
theorem sc__law_cell : FnScope ["_law_script", "_law_k"] ["_law_script", "_law_k"] (defScope s__law_cell) := ⟨rfl, rfl, rfl, by decide +kernel, rfl, by decide +kernel, by decide +kernel⟩
abbrev s__law_drawn_table : Stmt := top 28
theorem sc__law_drawn_table : FnScope ["_law_bag_here", "_law_house_here", "_law_hands", "_law_sizes", "_law_some", "_law_size", "_law_longer", "_law_part", "_law_rules", "_law_letter", "_law_owned", "_law_rule", "_law_key", "_law_hand", "_law_first", "_law_table", "_law_follows", "_law_k", "_law_behind", "_law_due", "_law_number"] ["_law_bag_here", "_law_house_here"] (defScope s__law_drawn_table) := ⟨rfl, rfl, rfl, by decide +kernel, rfl, by decide +kernel, by decide +kernel⟩
abbrev s_is_whole : Stmt := top 8
theorem sc_is_whole : FnScope ["thing"] ["thing"] (defScope s_is_whole) := ⟨rfl, rfl, rfl, by decide +kernel, rfl, by decide +kernel, by decide +kernel⟩
abbrev s_is_sign : Stmt := top 10
theorem sc_is_sign : FnScope ["thing"] ["thing"] (defScope s_is_sign) := ⟨rfl, rfl, rfl, by decide +kernel, rfl, by decide +kernel, by decide +kernel⟩
abbrev s_is_rising : Stmt := top 9
theorem sc_is_rising : FnScope ["things", "many", "ahead", "thing"] ["things", "many"] (defScope s_is_rising) := ⟨rfl, rfl, rfl, by decide +kernel, rfl, by decide +kernel, by decide +kernel⟩
abbrev s_is_entry : Stmt := top 11
theorem sc_is_entry : FnScope ["thing", "hands"] ["thing", "hands"] (defScope s_is_entry) := ⟨rfl, rfl, rfl, by decide +kernel, rfl, by decide +kernel, by decide +kernel⟩
abbrev s_is_house : Stmt := top 13
theorem sc_is_house : FnScope ["thing", "hands", "letters", "ahead", "entry"] ["thing"] (defScope s_is_house) := ⟨rfl, rfl, rfl, by decide +kernel, rfl, by decide +kernel, by decide +kernel⟩
abbrev s_look_house : Stmt := top 14
theorem sc_look_house : FnScope ["thing"] ["thing"] (defScope s_look_house) := ⟨rfl, rfl, rfl, by decide +kernel, rfl, by decide +kernel, by decide +kernel⟩
abbrev s_is_entry_tables : Stmt := top 17
theorem sc_is_entry_tables : FnScope ["house", "thing", "many", "memories", "good", "follows", "number"] ["house", "thing", "many"] (defScope s_is_entry_tables) := ⟨rfl, rfl, rfl, by decide +kernel, rfl, by decide +kernel, by decide +kernel⟩
abbrev s_is_done_apart : Stmt := top 19
theorem sc_is_done_apart : FnScope ["house", "table", "k", "own", "seen", "memories", "good", "follows", "behind", "hand", "key", "due"] ["house", "table", "k"] (defScope s_is_done_apart) := ⟨rfl, rfl, rfl, by decide +kernel, rfl, by decide +kernel, by decide +kernel⟩
abbrev s_is_table_of : Stmt := top 20
theorem sc_is_table_of : FnScope ["house", "thing", "unlike", "entry", "k"] ["house", "thing"] (defScope s_is_table_of) := ⟨rfl, rfl, rfl, by decide +kernel, rfl, by decide +kernel, by decide +kernel⟩
abbrev s_is_table : Stmt := top 21
theorem sc_is_table : FnScope ["house", "thing"] ["house", "thing"] (defScope s_is_table) := ⟨rfl, rfl, rfl, by decide +kernel, rfl, by decide +kernel, by decide +kernel⟩
abbrev s__law_odd : Stmt := top 31
theorem sc__law_odd : FnScope ["_law_number"] ["_law_number"] (defScope s__law_odd) := ⟨rfl, rfl, rfl, by decide +kernel, rfl, by decide +kernel, by decide +kernel⟩
abbrev s__law_spoilt : Stmt := top 32
theorem sc__law_spoilt : FnScope ["_law_table", "_law_bag_here", "_law_way", "_law_at", "_law_memories", "_law_good", "_law_follows", "_law_odd_here", "_law_j", "_law_k"] ["_law_table", "_law_bag_here"] (defScope s__law_spoilt) := ⟨rfl, rfl, rfl, by decide +kernel, rfl, by decide +kernel, by decide +kernel⟩
abbrev s__law_whole : Stmt := top 27
theorem sc__law_whole : FnScope ["_law_thing"] ["_law_thing"] (defScope s__law_whole) := ⟨rfl, rfl, rfl, by decide +kernel, rfl, by decide +kernel, by decide +kernel⟩
abbrev s__law_is_entry : Stmt := top 29
theorem sc__law_is_entry : FnScope ["_law_house_here", "_law_entry", "_law_many", "_law_number"] ["_law_house_here", "_law_entry", "_law_many"] (defScope s__law_is_entry) := ⟨rfl, rfl, rfl, by decide +kernel, rfl, by decide +kernel, by decide +kernel⟩
abbrev s__law_is_table : Stmt := top 30
theorem sc__law_is_table : FnScope ["_law_house_here", "_law_table", "_law_k", "_law_letter", "_law_owned", "_law_known", "_law_memories", "_law_good", "_law_follows", "_law_behind", "_law_key", "_law_due", "_law_entry", "_law_hand"] ["_law_house_here", "_law_table"] (defScope s__law_is_table) := ⟨rfl, rfl, rfl, by decide +kernel, rfl, by decide +kernel, by decide +kernel⟩
abbrev s__law_refused : Stmt := top 33
theorem sc__law_refused : FnScope ["e"] [] (defScope s__law_refused) := ⟨rfl, rfl, rfl, by decide +kernel, rfl, by decide +kernel, by decide +kernel⟩
abbrev s_law : Stmt := top 34
theorem sc_law : FnScope ["_law_script", "_law_house_here", "_law_table", "_law_k", "_law_thing", "_law_found", "_law_large", "_law_stays", "_law_letter", "_law_hand"] ["_law_script"] (defScope s_law) := ⟨rfl, rfl, rfl, by decide +kernel, rfl, by decide +kernel, by decide +kernel⟩
def l__law_drawn_table_1 : Ev → RS :=
  (fSetL 18 (fVar 20) (fVar 13))
def l__law_drawn_table_2 : Ev → RS :=
  (fSeq (fAsg (fOpN gList (fCons (fVar 7) fNil)) (gN 18))
    (fSeq (fAsg (fOp2 gIxI (fI (vOp2 gIx (vVar 8) (vVar 17))) (fOpN gTuple (fCons (fLc (fIt itemsL (fVar 10)) (gN 13) fYes (fI (vOp2 gIx (vVar 7) (vVar 13))) [13]) fNil))) (gN 19))
    (fSeq (fFor (fItN zipL (fCons (fVar 10) (fCons (fVar 19) fNil))) (gT 2 (gsC (gN 13) (gsC (gN 20) gsN))) l__law_drawn_table_1)
    (fAppend 16 (fCons (fMeth isL gIndex (fVar 4) (fCons (fOpNV gTuple (vCons (vVar 18) vNil)) fNil)) fNil)))))
def l__law_drawn_table_3 : Ev → RS :=
  (fSeq (fAsg (fLst fNil) (gN 16))
    (fSeq (fFor (fItN enumL (fCons (fI (vOp2 gIx (vVar 1) (vK (.int 1)))) fNil)) (gT 2 (gsC (gN 17) (gsC (gT 2 (gsC (gN 9) (gsC (gN 10) gsN))) gsN))) l__law_drawn_table_2)
    (fAppend 15 (fCons (fTup (fCons (fVar 7) (fCons (fOp2V gEq (fCallIO 0 2 m__law_take (fCons (fK (.int 2)) fNil)) (vK (.int 1))) (fCons (fOpNV gTuple (vCons (vVar 16) vNil)) fNil)))) fNil))))
def l__law_drawn_table_4 : Ev → RS :=
  (fAppD 11 (vVar 12) (fCons (fCallIO 0 2 m__law_take (fCons (fI (vOp2 gIx (vVar 3) (vVar 13))) fNil)) fNil))
def l__law_drawn_table_5 : Ev → RS :=
  (fSeq (fAsg (fOpN gTuple (fCons (fLc (fIt itemsL (fVar 10)) (gN 13) fYes (fI (vOp2 gIx (vVar 7) (vVar 13))) [13]) fNil)) (gN 12))
    (fIf (fTv (vOp2 gNin (vVar 12) (vVar 11)))
    (fSeq (fPutO 11 (fLst fNil) (fVar 12))
    (fFor (fIt itemsL (fVar 10)) (gN 13) l__law_drawn_table_4))
    fNext))
def l__law_drawn_table_6 : Ev → RS :=
  (fSeq (fAsg fDNewT (gN 11))
    (fSeq (fFor (fIt itemsL (fVar 4)) (gN 7) l__law_drawn_table_5)
    (fAppend 8 (fCons (fVar 11) fNil))))
def l__law_drawn_table_7 : Ev → RS :=
  (fExtend 6 (fCons (fLc (fItN rng1 (fCons (fVar 5) fNil)) (gN 20) fYes (fI (vOp2 gAddT (vVar 7) (vTup (vCons (vVar 20) vNil)))) [20]) fNil))
def l__law_drawn_table_8 : Ev → RS :=
  (fSeq (fAsg (fLst fNil) (gN 6))
    (fSeq (fFor (fIt itemsL (fVar 4)) (gN 7) l__law_drawn_table_7)
    (fAsg (fVar 6) (gN 4))))
def b__law_drawn_table : Ev → RS :=
  (fSeq (fAsg (fI (vOp2 gIx (vVar 1) (vK (.int 0)))) (gN 2))
    (fSeq (fAsg (fLc (fItN rng1 (fCons (fVar 2) fNil)) (gN 13) fYes (fOp2 gAdd (fK (.int 1)) (fCallIO 0 2 m__law_take (fCons (fK (.int 3)) fNil))) [13]) (gN 3))
    (fSeq (fAsg (fLst (fCons (fTup fNil) fNil)) (gN 4))
    (fSeq (fFor (fIt itemsL (fVar 3)) (gN 5) l__law_drawn_table_8)
    (fSeq (fAsg (fLst fNil) (gN 8))
    (fSeq (fFor (fIt itemsL (fI (vOp2 gIx (vVar 1) (vK (.int 1))))) (gT 2 (gsC (gN 9) (gsC (gN 10) gsN))) l__law_drawn_table_6)
    (fSeq (fAsg (fCallIO 0 2 m__law_take (fCons (fI (vOpN gLen (vCons (vVar 4) vNil))) fNil)) (gN 14))
    (fSeq (fAsg (fOp2 gAdd (fSl (fVar 4) (fO (fVar 14)) fO0) (fSl (fVar 4) fO0 (fO (fVar 14)))) (gN 4))
    (fSeq (fAsg (fLst fNil) (gN 15))
    (fSeq (fFor (fIt itemsL (fVar 4)) (gN 7) l__law_drawn_table_3)
    (fRet (fMv 15))))))))))))
def m__law_drawn_table : Fn := semOf (true :: List.replicate 1 false) 21 b__law_drawn_table
def b_is_entry_tables : Ev → RS :=
  (fSeq (fIf (fOr (fNot (fTv (vOpN gIsi (vCons (vVar 1) (vCons (vK (.gv (.ty "tuple"))) vNil))))) (fOr (fTv (vOp2 gNe (vOpN gLen (vCons (vVar 1) vNil)) (vK (.int 3)))) (fNot (fTv (vOpN gIsi (vCons (vOp2 gIx (vVar 1) (vK (.int 1))) (vCons (vK (.gv (.ty "bool"))) vNil)))))))
    (fRet (fK (.bl false)))
    fNext)
    (fSeq (fAsg (fVar 1) (gT 3 (gsC (gN 3) (gsC (gN 4) (gsC (gN 5) gsN)))))
    (fSeq (fIf (fOr (fNot (fTv (vOpN gIsi (vCons (vVar 3) (vCons (vK (.gv (.ty "tuple"))) vNil))))) (fTv (vOp2 gNe (vOpN gLen (vCons (vVar 3) vNil)) (vOp2 gIx (vVar 0) (vK (.int 0))))))
    (fRet (fK (.bl false)))
    fNext)
    (fSeq (fIf (fOr (fNot (fTv (vOpN gIsi (vCons (vVar 5) (vCons (vK (.gv (.ty "tuple"))) vNil))))) (fTv (vOp2 gNe (vOpN gLen (vCons (vVar 5) vNil)) (vOpN gLen (vCons (vOp2 gIx (vVar 0) (vK (.int 1))) vNil)))))
    (fRet (fK (.bl false)))
    fNext)
    (fSeq (fIf (fNot (fTb (fOpN gAll (fCons (fLc (fIt itemsX (fVar 3)) (gN 6) fYes (fAndD (fCall 1 m_is_whole (fCons (fVar 6) fNil)) (fI (vOp2 gGe (vVar 6) (vK (.int 0))))) [6]) fNil))))
    (fRet (fK (.bl false)))
    fNext)
    (fRet (fOpN gAll (fCons (fLc (fIt itemsX (fVar 5)) (gN 6) fYes (fAndD (fCall 1 m_is_whole (fCons (fVar 6) fNil)) (fChain gLe gLt (fK (.int 0)) (fVar 6) (fVar 2))) [6]) fNil))))))))
def m_is_entry_tables : Fn := semOf (List.replicate 3 false) 7 b_is_entry_tables
def l_is_done_apart_1 : Ev → RS :=
  (fIf (fAnd (fTv (vOp2 gNin (vVar 9) (vVar 3))) (fTv (vOp2 gNe (vOp2 gIx (vVar 8) (vVar 9)) (vOp2 gIx (vVar 5) (vVar 9)))))
    (fRet (fK (.bl false)))
    fNext)
def l_is_done_apart_2 : Ev → RS :=
  (fSeq (fAsg (fI (vOp2 gIx (vOp2 gIx (vVar 1) (vOp2 gIx (vVar 7) (vVar 2))) (vK (.int 0)))) (gN 8))
    (fSeq (fFor (fItN rng1 (fCons (fI (vOp2 gIx (vVar 0) (vK (.int 0)))) fNil)) (gN 9) l_is_done_apart_1)
    (fSeq (fAsg (fOpN gTuple (fCons (fLc (fIt itemsL (fVar 3)) (gN 9) fYes (fI (vOp2 gIx (vVar 5) (vVar 9))) [9]) fNil)) (gN 10))
    (fSeq (fAsg (fOpN gTuple (fCons (fLc (fIt itemsL (fVar 3)) (gN 9) fYes (fI (vOp2 gIx (vVar 8) (vVar 9))) [9]) fNil)) (gN 11))
    (fSeq (fIf (fAnd (fTv (vOp2 gIn (vVar 10) (vVar 4))) (fTv (vOp2 gNe (vOp2 gIx (vVar 4) (vVar 10)) (vVar 11))))
    (fRet (fK (.bl false)))
    fNext)
    (fPutD 4 (fVar 11) (fVar 10)))))))
def b_is_done_apart : Ev → RS :=
  (fSeq (fAsg (fI (vOp2 gIx (vOp2 gIx (vOp2 gIx (vVar 0) (vK (.int 1))) (vVar 2)) (vK (.int 1)))) (gN 3))
    (fSeq (fAsg fDNewT (gN 4))
    (fSeq (fFor (fIt itemsX (fVar 1)) (gT 3 (gsC (gN 5) (gsC (gN 6) (gsC (gN 7) gsN)))) l_is_done_apart_2)
    (fRet (fK (.bl true))))))
def m_is_done_apart : Fn := semOf (List.replicate 3 false) 12 b_is_done_apart
def l_is_table_of_1 : Ev → RS :=
  (fPutD 2 (fK (.bl true)) (fI (vOp2 gIx (vVar 3) (vK (.int 0)))))
def b_is_table_of : Ev → RS :=
  (fSeq (fIf (fOr (fNot (fTv (vOpN gIsi (vCons (vVar 1) (vCons (vK (.gv (.ty "list"))) vNil))))) (fNot (fTb (fChain gLe gLe (fK (.int 1)) (fI (vOpN gLen (vCons (vVar 1) vNil))) (fK (.int 600))))))
    (fRet (fK (.bl false)))
    fNext)
    (fSeq (fIf (fNot (fTb (fOpN gAll (fCons (fLc (fIt itemsX (fVar 1)) (gN 3) fYes (fCall 3 m_is_entry_tables (fCons (fVar 0) (fCons (fVar 3) (fCons (fI (vOpN gLen (vCons (vVar 1) vNil))) fNil)))) [3]) fNil))))
    (fRet (fK (.bl false)))
    fNext)
    (fSeq (fAsg fDNewT (gN 2))
    (fSeq (fFor (fIt itemsX (fVar 1)) (gN 3) l_is_table_of_1)
    (fSeq (fIf (fTv (vOp2 gLt (vOpN gLenT (vCons (vVar 2) vNil)) (vOpN gLen (vCons (vVar 1) vNil))))
    (fRet (fK (.bl false)))
    fNext)
    (fRet (fOpN gAll (fCons (fLc (fItN rng1 (fCons (fI (vOpN gLen (vCons (vOp2 gIx (vVar 0) (vK (.int 1))) vNil))) fNil)) (gN 4) fYes (fCall 3 m_is_done_apart (fCons (fVar 0) (fCons (fVar 1) (fCons (fVar 4) fNil)))) [4]) fNil))))))))
def m_is_table_of : Fn := semOf (List.replicate 2 false) 5 b_is_table_of
def b_is_table : Ev → RS :=
  (fSeq (fDrop (fCall 1 m_look_house (fCons (fVar 0) fNil)))
    (fRet (fCall 2 m_is_table_of (fCons (fVar 0) (fCons (fVar 1) fNil)))))
def m_is_table : Fn := semOf (List.replicate 2 false) 2 b_is_table
def b__law_odd : Ev → RS :=
  (fRet (fOp2 gIxI (fFz (fLst (fCons (fI (vOp1 gNeg (vK (.int 1)))) (fCons (fI (vOp2 gPow (vK (.int 10)) (vK (.int 30)))) (fCons (fK (.bl true)) (fCons (fK (.bl false)) (fCons (fK .non) (fCons (fK (.str "0")) (fCons (fK (.int 0)) (fCons (fK (.int 1)) (fCons (fK (.int 2)) (fCons (fTup (fCons (fK (.int 0)) fNil)) (fCons (fLst (fCons (fK (.int 0)) fNil)) (fCons (fTup fNil) (fCons (fK (.int 3)) (fCons (fK (.int 80)) (fCons (fK (.int 81)) (fCons (fK (.int 599)) fNil)))))))))))))))))) (fI (vOp2 gMod (vVar 0) (vK (.int 16))))))
def m__law_odd : Fn := semOf (List.replicate 1 false) 1 b__law_odd
def b__law_spoilt : Ev → RS :=
  (fSeq (fAsg (fOpNV gList (vCons (vVar 0) vNil)) (gN 0))
    (fSeq (fAsg (fCallIO 1 2 m__law_take (fCons (fK (.int 16)) fNil)) (gN 2))
    (fSeq (fAsg (fCallIO 1 2 m__law_take (fCons (fI (vOpN gLen (vCons (vVar 0) vNil))) fNil)) (gN 3))
    (fSeq (fAsg (fI (vOp2 gIx (vVar 0) (vVar 3))) (gT 3 (gsC (gN 4) (gsC (gN 5) (gsC (gN 6) gsN)))))
    (fSeq (fAsg (fCall 1 m__law_odd (fCons (fCallIO 1 2 m__law_take (fCons (fK (.int 16)) fNil)) fNil)) (gN 7))
    (fSeq (fAsg (fCallIO 1 2 m__law_take (fCons (fI (vOpN gLen (vCons (vVar 4) vNil))) fNil)) (gN 8))
    (fSeq (fAsg (fCallIO 1 2 m__law_take (fCons (fI (vOpN gLen (vCons (vVar 6) vNil))) fNil)) (gN 9))
    (fSeq (fIf (fTv (vOp2 gLt (vVar 2) (vK (.int 4))))
    (fSetL 0 (fTup (fCons (fVar 4) (fCons (fVar 5) (fCons (fOp2 gAddT (fOp2 gAddT (fSl (fVar 6) fO0 (fO (fVar 9))) (fTup (fCons (fOp2 gIxI (fFz (fLst (fCons (fVar 7) (fCons (fCallIO 1 2 m__law_take (fCons (fI (vOpN gLen (vCons (vVar 0) vNil))) fNil)) fNil)))) (fI (vOp2 gMod (vVar 2) (vK (.int 2))))) fNil))) (fSl (fVar 6) (fO (fI (vOp2 gAdd (vVar 9) (vK (.int 1))))) fO0)) fNil)))) (fVar 3))
    (fIf (fTv (vOp2 gLt (vVar 2) (vK (.int 7))))
    (fSetL 0 (fTup (fCons (fOp2 gAddT (fOp2 gAddT (fSl (fVar 4) fO0 (fO (fVar 8))) (fTup (fCons (fOp2 gIxI (fFz (fLst (fCons (fVar 7) (fCons (fCallIO 1 2 m__law_take (fCons (fK (.int 4)) fNil)) (fCons (fK (.int 7)) fNil))))) (fI (vOp2 gSub (vVar 2) (vK (.int 4))))) fNil))) (fSl (fVar 4) (fO (fI (vOp2 gAdd (vVar 8) (vK (.int 1))))) fO0)) (fCons (fVar 5) (fCons (fVar 6) fNil)))) (fVar 3))
    (fIf (fTv (vOp2 gEq (vVar 2) (vK (.int 7))))
    (fSetL 0 (fTup (fCons (fVar 4) (fCons (fVar 7) (fCons (fVar 6) fNil)))) (fVar 3))
    (fIf (fTv (vOp2 gEq (vVar 2) (vK (.int 8))))
    (fSetL 0 (fVar 7) (fVar 3))
    (fIf (fTv (vOp2 gEq (vVar 2) (vK (.int 9))))
    (fAppend 0 (fCons (fI (vOp2 gIx (vVar 0) (vVar 3))) fNil))
    (fIf (fTv (vOp2 gEq (vVar 2) (vK (.int 10))))
    (fDrop (fPopA 0 (fCons (fVar 3) fNil)))
    (fIf (fTv (vOp2 gEq (vVar 2) (vK (.int 11))))
    (fSetL 0 (fTup (fCons (fOpN gList (fCons (fVar 4) fNil)) (fCons (fVar 5) (fCons (fVar 6) fNil)))) (fVar 3))
    (fIf (fTv (vOp2 gEq (vVar 2) (vK (.int 12))))
    (fSetL 0 (fTup (fCons (fVar 4) (fCons (fVar 5) (fCons (fOpN gList (fCons (fVar 6) fNil)) fNil)))) (fVar 3))
    (fIf (fTv (vOp2 gEq (vVar 2) (vK (.int 13))))
    (fSetL 0 (fTup (fCons (fVar 4) (fCons (fNotD (fVar 5)) (fCons (fVar 6) fNil)))) (fVar 3))
    (fIf (fTv (vOp2 gEq (vVar 2) (vK (.int 14))))
    (fSetL 0 (fLst (fCons (fVar 4) (fCons (fVar 5) (fCons (fVar 6) fNil)))) (fVar 3))
    (fAsg (fOp2 gIxI (fFz (fLst (fCons (fOpNV gTuple (vCons (vVar 0) vNil)) (fCons (fK .non) (fCons (fLst fNil) (fCons (fK (.str "")) (fCons (fK (.int 5)) (fCons (fLst (fCons (fK .non) fNil)) fNil)))))))) (fCallIO 1 2 m__law_take (fCons (fK (.int 6)) fNil))) (gN 0))))))))))))
    (fRet (fMv 0))))))))))
def m__law_spoilt : Fn := semOf [false, true] 10 b__law_spoilt
def b__law_is_entry : Ev → RS :=
  (fSeq (fIf (fOr (fNot (fTv (vOpN gIsi (vCons (vVar 1) (vCons (vK (.gv (.ty "tuple"))) vNil))))) (fOr (fTv (vOp2 gNe (vOpN gLen (vCons (vVar 1) vNil)) (vK (.int 3)))) (fNot (fTv (vOpN gIsi (vCons (vOp2 gIx (vVar 1) (vK (.int 1))) (vCons (vK (.gv (.ty "bool"))) vNil)))))))
    (fRet (fK (.bl false)))
    fNext)
    (fSeq (fIf (fOr (fNot (fTv (vOpN gIsi (vCons (vOp2 gIx (vVar 1) (vK (.int 0))) (vCons (vK (.gv (.ty "tuple"))) vNil))))) (fNot (fTv (vOpN gIsi (vCons (vOp2 gIx (vVar 1) (vK (.int 2))) (vCons (vK (.gv (.ty "tuple"))) vNil))))))
    (fRet (fK (.bl false)))
    fNext)
    (fSeq (fIf (fOr (fTv (vOp2 gNe (vOpN gLen (vCons (vOp2 gIx (vVar 1) (vK (.int 0))) vNil)) (vOp2 gIx (vVar 0) (vK (.int 0))))) (fTv (vOp2 gNe (vOpN gLen (vCons (vOp2 gIx (vVar 1) (vK (.int 2))) vNil)) (vOpN gLen (vCons (vOp2 gIx (vVar 0) (vK (.int 1))) vNil)))))
    (fRet (fK (.bl false)))
    fNext)
    (fSeq (fIf (fTb (fOp2V gNe (fLc (fIt itemsX (fI (vOp2 gIx (vVar 1) (vK (.int 0))))) (gN 3) (fOr (fNot (fTb (fCall 1 m__law_whole (fCons (fVar 3) fNil)))) (fTv (vOp2 gLt (vVar 3) (vK (.int 0))))) (fVar 3) [3]) (vLst vNil)))
    (fRet (fK (.bl false)))
    fNext)
    (fRet (fOp2V gEq (fLc (fIt itemsX (fI (vOp2 gIx (vVar 1) (vK (.int 2))))) (gN 3) (fOr (fNot (fTb (fCall 1 m__law_whole (fCons (fVar 3) fNil)))) (fNot (fTb (fChain gLe gLt (fK (.int 0)) (fVar 3) (fVar 2))))) (fVar 3) [3]) (vLst vNil)))))))
def m__law_is_entry : Fn := semOf (List.replicate 3 false) 4 b__law_is_entry
def l__law_is_table_1 : Ev → RS :=
  (fSeq (fAsg (fI (vOp2 gIx (vOp2 gIx (vVar 1) (vOp2 gIx (vVar 8) (vVar 2))) (vK (.int 0)))) (gN 9))
    (fSeq (fIf (fTb (fOp2V gNe (fLc (fItN rng1 (fCons (fI (vOp2 gIx (vVar 0) (vK (.int 0)))) fNil)) (gN 13) (fAnd (fTv (vOp2 gNin (vVar 13) (vVar 4))) (fTv (vOp2 gNe (vOp2 gIx (vVar 9) (vVar 13)) (vOp2 gIx (vVar 6) (vVar 13))))) (fVar 13) [13]) (vLst vNil)))
    (fRet (fK (.bl false)))
    fNext)
    (fSeq (fAsg (fOpN gTuple (fCons (fLc (fIt itemsL (fVar 4)) (gN 13) fYes (fI (vOp2 gIx (vVar 6) (vVar 13))) [13]) fNil)) (gN 10))
    (fSeq (fAsg (fOpN gTuple (fCons (fLc (fIt itemsL (fVar 4)) (gN 13) fYes (fI (vOp2 gIx (vVar 9) (vVar 13))) [13]) fNil)) (gN 11))
    (fSeq (fIf (fTb (fOp2V gNe (fDGet 5 (fVar 10) (fVar 11)) (vVar 11)))
    (fRet (fK (.bl false)))
    fNext)
    (fPutD 5 (fVar 11) (fVar 10)))))))
def l__law_is_table_2 : Ev → RS :=
  (fSeq (fAsg fDNewT (gN 5))
    (fFor (fIt itemsX (fVar 1)) (gT 3 (gsC (gN 6) (gsC (gN 7) (gsC (gN 8) gsN)))) l__law_is_table_1))
def b__law_is_table : Ev → RS :=
  (fSeq (fIf (fOr (fNot (fTv (vOpN gIsi (vCons (vVar 1) (vCons (vK (.gv (.ty "list"))) vNil))))) (fNot (fTb (fChain gLt gLt (fK (.int 0)) (fI (vOpN gLen (vCons (vVar 1) vNil))) (fK (.int 601))))))
    (fRet (fK (.bl false)))
    fNext)
    (fSeq (fIf (fTb (fOp2V gNe (fLc (fIt itemsX (fVar 1)) (gN 12) (fNot (fTb (fCall 3 m__law_is_entry (fCons (fVar 0) (fCons (fVar 12) (fCons (fI (vOpN gLen (vCons (vVar 1) vNil))) fNil)))))) (fVar 12) [12]) (vLst vNil)))
    (fRet (fK (.bl false)))
    fNext)
    (fSeq (fIf (fTb (fOp2V gLt (fOp1 gLenSetB (fLc (fIt itemsX (fVar 1)) (gN 12) fYes (fI (vOp2 gIx (vVar 12) (vK (.int 0)))) [12])) (vOpN gLen (vCons (vVar 1) vNil))))
    (fRet (fK (.bl false)))
    fNext)
    (fSeq (fFor (fItN enumL (fCons (fI (vOp2 gIx (vVar 0) (vK (.int 1)))) fNil)) (gT 2 (gsC (gN 2) (gsC (gT 2 (gsC (gN 3) (gsC (gN 4) gsN))) gsN))) l__law_is_table_2)
    (fRet (fK (.bl true)))))))
def m__law_is_table : Fn := semOf (List.replicate 2 false) 14 b__law_is_table
def b__law_refused : Ev → RS :=
  (fSeq (fTryH (fun _ => .bl true) (fDrop (fCall 2 m_is_table (fCons (fTup (fCons (fK (.int 1)) (fCons (fLst (fCons (fTup (fCons (fK (.str "a")) (fCons (fLst (fCons (fK (.int 0)) fNil)) fNil))) fNil)) fNil))) (fCons (fLst fNil) fNil)))))
    (fRet (fK (.bl false))))
def m__law_refused : Fn := semOf (List.replicate 0 false) 1 b__law_refused
def l_law_1 : Ev → RS :=
  (fSeq (fAsg (fOpN gTuple (fCons (fLc (fIt itemsL (fI (vOp2 gIx (vVar 1) (vK (.int 1))))) (gN 8) fYes (fVar 3) [8]) fNil)) (gN 7))
    (fAppend 6 (fCons (fTup (fCons (fOpN gTuple (fCons (fOp2 gAdd (fLst (fCons (fVar 3) fNil)) (fLc (fItN rng1 (fCons (fI (vOp2 gSub (vOp2 gIx (vVar 1) (vK (.int 0))) (vK (.int 1)))) fNil)) (gN 9) fYes (fK (.int 0)) [9])) fNil)) (fCons (fI (vOp2 gEq (vOp2 gMod (vVar 3) (vK (.int 2))) (vK (.int 0)))) (fCons (fVar 7) fNil)))) fNil)))
def l_law_2 : Ev → RS :=
  (fSeq (fAsg (fCallG m__law_spoilt (fCons (fVar 2) (fCons (fCall 1 m__law_bag (fCons (fOp2V gAdd (fCall 2 m__law_cell (fCons (fVar 0) (fCons (fI (vOp2 gAdd (vVar 3) (vK (.int 2)))) fNil))) (vOp2 gMul (vK (.int 3)) (vVar 3))) fNil)) fNil))) (gN 4))
    (fSeq (fAsg (fCall 2 m_is_table (fCons (fVar 1) (fCons (fVar 4) fNil))) (gN 5))
    (fIf (fOr (fNot (fTv (vOpN gIsi (vCons (vVar 5) (vCons (vK (.gv (.ty "bool"))) vNil))))) (fTb (fOp2L gNe 5 (fCall 2 m__law_is_table (fCons (fVar 1) (fCons (fVar 4) fNil))))))
    (fRet (fK (.bl false)))
    fNext)))
def b_law : Ev → RS :=
  (fSeq (fAsg (fCallF 1 m__law_house (fCons (fCall 1 m__law_bag (fCons (fCall 2 m__law_cell (fCons (fVar 0) (fCons (fK (.int 0)) fNil))) fNil)) fNil)) (gN 1))
    (fSeq (fAsg (fCallF 2 m__law_drawn_table (fCons (fCall 1 m__law_bag (fCons (fCall 2 m__law_cell (fCons (fVar 0) (fCons (fK (.int 1)) fNil))) fNil)) (fCons (fVar 1) fNil))) (gN 2))
    (fSeq (fIf (fTb (fOp2V gIsn' (fCall 2 m_is_table (fCons (fVar 1) (fCons (fVar 2) fNil))) (vK (.bl true))))
    (fRet (fK (.bl false)))
    fNext)
    (fSeq (fFor (fItN rng1 (fCons (fI (vOpN gMax2 (vCons (vK (.int 3)) (vCons (vOpN gMin2 (vCons (vK (.int 20)) (vCons (vOpN gLen (vCons (vVar 0) vNil)) vNil))) vNil)))) fNil)) (gN 3) l_law_2)
    (fSeq (fAsg (fLst fNil) (gN 6))
    (fSeq (fFor (fItN rng1 (fCons (fK (.int 601)) fNil)) (gN 3) l_law_1)
    (fSeq (fIf (fOr (fTb (fOp2V gIsn' (fCall 2 m_is_table (fCons (fVar 1) (fCons (fSl (fVar 6) fO0 (fO (fK (.int 600)))) fNil))) (vK (.bl true)))) (fTv (vOp2 gIsn' (vCall 2 m_is_table (vCons (vVar 1) (vCons (vVar 6) vNil))) (vK (.bl false)))))
    (fRet (fK (.bl false)))
    fNext)
    (fRet (fCall0 m__law_refused)))))))))
def m_law : Fn := semOf (List.replicate 1 false) 10 b_law
structure Bi (mg : Str → Option Value) : Prop where
  ValueError : mg "ValueError" = none
  abs : mg "abs" = none
  all : mg "all" = none
  bool : mg "bool" = none
  enumerate : mg "enumerate" = none
  int : mg "int" = none
  isinstance : mg "isinstance" = none
  len : mg "len" = none
  list : mg "list" = none
  max : mg "max" = none
  min : mg "min" = none
  range : mg "range" = none
  set : mg "set" = none
  str : mg "str" = none
  tuple : mg "tuple" = none
  zip : mg "zip" = none
  c_LETTERS : ∃ t, mg "LETTERS" = some (.str "abcdefghijklmnopqrstuvwxyz" t)
  c_FEWEST_HANDS : ∃ t, mg "FEWEST_HANDS" = some (.int 2 t)
  c_MOST_HANDS : ∃ t, mg "MOST_HANDS" = some (.int 4 t)
  c_MOST_LETTERS : ∃ t, mg "MOST_LETTERS" = some (.int 6 t)
  c_MOST : ∃ t, mg "MOST" = some (.int 600 t)
section
variable [I0 : TabC]
variable {P : Program} {w : World} {K : PySem.W.Frag} {mg : Str → Option Value} {base : Heap} {CH x0 : Addr}
theorem ok__law_take {f : Addr} {fd : FuncData} (F : Fun K "_law_take" "_law_take" s__law_take f fd) (hm : mg "_law_take" = some (.ref f)) (B : Bi mg) (hw : w = TabC.w) (XT : ETx K mg CH [x0])  : Cal P w K mg base (RXP [x0]) "_law_take" 1 (true :: List.replicate 1 false) m__law_take := by
  refine ⟨f, fd, ["_law_bag_here", "_law_many"], fn_ok (k := 0) F sc__law_take rfl rfl fun cdv A outer s H E hr => ?_, hm, F.kp, F.binds fun _ _ _ _ _ _ us hl => match us, hl with | [_, _], _ => rfl⟩
  unfold b__law_take
  exact (dss_cons (ds_if (dt_cmpV (op_eqU (room64 hr)) vEq (dv_ixU (room1 hr) (dv_var (pv 0)) (dv_k pe_int fun _ _ => .int) (fun _ _ => rfl)) (dv_k pe_int fun _ _ => .int) (nomark _))
      (dss_cons (ds_set (ps_set (i := 2) sc__law_take.nd rfl (by first | exact Or.inl rfl | exact Or.inr rfl) (de_ofV (dv_op op_modN vMod (dv_ixU (room1 hr) (dv_var (pv 0)) (dv_k pe_int fun _ _ => .int) (fun _ _ => rfl)) (dv_var (pv 1))))) (by decide))
      (dss_cons (ds_setL (ps_asg (de_ofV (dv_op op_fdivX vFdiv (dv_ixU (room1 hr) (dv_var (pv 0)) (dv_k pe_int fun _ _ => .int) (fun _ _ => rfl)) (dv_var (pv 1)))) (pg_sub (pv 0) (de_k pe_int fun _ _ => .int) set_list)))
      (dss_one (ds_ret (de_mv (pv 2))))))
      dss_nil)
      (dss_cons (ds_setL (ps_asg (de_ofV (dv_op op_modN vMod (dv_op op_addU vAdd (dv_op op_addU vAdd (dv_op op_mul vMul (dv_ixU (room1 hr) (dv_var (pv 0)) (dv_k pe_int fun _ _ => .int) (fun _ _ => rfl)) (dv_k pe_int fun _ _ => .int)) (dv_op op_mul vMul (dv_op op_mul vMul (dv_k pe_int fun _ _ => .int) (dv_ixU (room1 hr) (dv_var (pv 0)) (dv_k pe_int fun _ _ => .int) (fun _ _ => rfl))) (dv_ixU (room1 hr) (dv_var (pv 0)) (dv_k pe_int fun _ _ => .int) (fun _ _ => rfl)))) (dv_k pe_int fun _ _ => .int)) (dv_k pe_int fun _ _ => .int))) (pg_sub (pv 0) (de_k pe_int fun _ _ => .int) set_list)))
      (dss_cons (ds_setL (ps_asg (de_ofV (dv_op op_addU vAdd (dv_ixU (room1 hr) (dv_var (pv 0)) (dv_k pe_int fun _ _ => .int) (fun _ _ => rfl)) (dv_k pe_int fun _ _ => .int))) (pg_sub (pv 0) (de_k pe_int fun _ _ => .int) set_list)))
      (dss_one (ds_ret (de_ofV (dv_op op_modN vMod (dv_op op_fdivX vFdiv (dv_op op_modN vMod (dv_op op_mul vMul (dv_ixU (room1 hr) (dv_var (pv 0)) (dv_k pe_int fun _ _ => .int) (fun _ _ => rfl)) (dv_k pe_int fun _ _ => .int)) (dv_k pe_int fun _ _ => .int)) (dv_k pe_int fun _ _ => .int)) (dv_var (pv 1)))))))))
theorem ok__law_house {f : Addr} {fd : FuncData} (F : Fun K "_law_house" "_law_house" s__law_house f fd) (hm : mg "_law_house" = some (.ref f)) (B : Bi mg) (hw : w = TabC.w) (XT : ETx K mg CH [x0]) (C__law_take : Cal P w K mg base (RXP [x0]) "_law_take" 1 (true :: List.replicate 1 false) m__law_take) : Cal P w K mg base (RXP [x0]) "_law_house" 2 (true :: List.replicate 0 false) m__law_house := by
  refine ⟨f, fd, ["_law_bag_here"], fn_ok (k := 1) F sc__law_house rfl rfl fun cdv A outer s H E hr => ?_, hm, F.kp, F.binds fun _ _ _ _ _ _ us hl => match us, hl with | [_], _ => rfl⟩
  unfold b__law_house
  exact (dss_cons (ds_set (ps_set (i := 1) sc__law_house.nd rfl (by first | exact Or.inl rfl | exact Or.inr rfl) (de_op op_addU vAdd (de_k pe_int fun _ _ => .int) (de_callIOC C__law_take hr (by decide) rfl (L2N.takes_of rfl rfl rfl rfl) (pv 0) (da_cons (de_k pe_int fun _ _ => .int) da_nil)))) (by decide))
      (dss_cons (ds_set (ps_set (i := 2) sc__law_house.nd rfl (by first | exact Or.inl rfl | exact Or.inr rfl) (de_op op_addU vAdd (de_k pe_int fun _ _ => .int) (de_callIOC C__law_take hr (by decide) rfl (L2N.takes_of rfl rfl rfl rfl) (pv 0) (da_cons (de_k pe_int fun _ _ => .int) da_nil)))) (by decide))
      (dss_cons (ds_set (ps_set (i := 3) sc__law_house.nd rfl (by first | exact Or.inl rfl | exact Or.inr rfl) (de_callIOC C__law_take hr (by decide) rfl (L2N.takes_of rfl rfl rfl rfl) (pv 0) (da_cons (de_k pe_int fun _ _ => .int) da_nil))) (by decide))
      (dss_cons (ds_set (ps_set (i := 4) sc__law_house.nd rfl (by first | exact Or.inl rfl | exact Or.inr rfl) (de_lst da_nil)) (by decide))
      (dss_cons (ds_set (ps_set (i := 5) sc__law_house.nd rfl (by first | exact Or.inl rfl | exact Or.inr rfl) (de_k pe_int fun _ _ => .int)) (by decide))
      (dss_cons (ds_for (passes_of rfl) rfl (di_range1 (by rfl) B.range (da_cons (de_var (pv 2)) da_nil)) (dg_name (pg_name (i := 6) sc__law_house.nd rfl (by first | exact Or.inl rfl | exact Or.inr rfl)) (by decide))
      (dss_cons (ds_set (ps_set (i := 5) sc__law_house.nd rfl (by first | exact Or.inl rfl | exact Or.inr rfl) (de_op op_addU vAdd (de_var (pv 5)) (de_callIOC C__law_take hr (by decide) rfl (L2N.takes_of rfl rfl rfl rfl) (pv 0) (da_cons (de_ofV (dv_op op_sub vSub (dv_op op_addU vAdd (dv_op op_sub vSub (dv_k pe_int fun _ _ => .int) (dv_var (pv 2))) (dv_var (pv 6))) (dv_var (pv 5)))) da_nil)))) (by decide))
      (dss_cons (ds_set (ps_set (i := 7) sc__law_house.nd rfl (by first | exact Or.inl rfl | exact Or.inr rfl) (de_op op_addU vAdd (de_k pe_int fun _ _ => .int) (de_callIOC C__law_take hr (by decide) rfl (L2N.takes_of rfl rfl rfl rfl) (pv 0) (da_cons (de_ofV (dv_op op_sub vSub (dv_op op_shl vShl (dv_k pe_int fun _ _ => .int) (dv_var (pv 1))) (dv_k pe_int fun _ _ => .int))) da_nil)))) (by decide))
      (dss_cons (ds_if (dt_cmpV (op_eqU (room64 hr)) vEq (dv_var (pv 3)) (dv_k pe_int fun _ _ => .int) (nomark _))
      (dss_one (ds_set (ps_set (i := 7) sc__law_house.nd rfl (by first | exact Or.inl rfl | exact Or.inr rfl) (de_op op_or vBor (de_op op_shl vShl (de_k pe_int fun _ _ => .int) (de_callIOC C__law_take hr (by decide) rfl (L2N.takes_of rfl rfl rfl rfl) (pv 0) (da_cons (de_var (pv 1)) da_nil))) (de_op op_shl vShl (de_k pe_int fun _ _ => .int) (de_callIOC C__law_take hr (by decide) rfl (L2N.takes_of rfl rfl rfl rfl) (pv 0) (da_cons (de_var (pv 1)) da_nil))))) (by decide)))
      dss_nil)
      (dss_cons (ds_append (ps_expr (pe_bm PySem.F.plainAttrs_list PySem.F.slot_list_append PySem.F.type_list_append mt_append (pv 4) (da_cons (de_tup (da_cons (de_ofV (dv_ixU (room1 hr) (dv_k pe_str fun _ _ => .str) (dv_var (pv 5)) (fun _ _ => rfl))) (da_cons (de_lc rfl (pe_lc (own := [("_law_hand", 8)]) (g := tG _ [0, 1, 2, 3, 4, 5, 6, 7] _) rfl sc__law_house.nd (di_range1 (by rfl) B.range (da_cons (de_var (pv 1)) da_nil)) (blkOk_by (own := [("_law_hand", 8)]) (by kernel_rfl)) (fun _ _ _ _ _ => (dg_name (pg_name (i := 8) sc__law_house.nd rfl (by first | exact Or.inl rfl | exact Or.inr rfl)) (by decide))) (fun _ _ _ _ _ => (dts_one (dt_cmpV (op_eqU (room64 hr)) vEq (dv_op op_and vBand (dv_op op_shr vShr (dv_var (pv 7)) (dv_var (pv 8))) (dv_k pe_int fun _ _ => .int)) (dv_k pe_int fun _ _ => .int) (nomark _)))) (fun _ _ _ _ _ => (de_var (pv 8))))) da_nil))) da_nil))))
      (dss_one (ds_set (ps_set (i := 5) sc__law_house.nd rfl (by first | exact Or.inl rfl | exact Or.inr rfl) (de_ofV (dv_op op_addU vAdd (dv_var (pv 5)) (dv_k pe_int fun _ _ => .int)))) (by decide))))))))
      (dss_one (ds_ret (de_tup (da_consL (pv 1) (da_consL (pv 4) da_nil)))))))))))
theorem ok__law_bag {f : Addr} {fd : FuncData} (F : Fun K "_law_bag" "_law_bag" s__law_bag f fd) (hm : mg "_law_bag" = some (.ref f)) (B : Bi mg) (hw : w = TabC.w) (XT : ETx K mg CH [x0])  : Cal P w K mg base (RXP [x0]) "_law_bag" 1 (List.replicate 1 false) m__law_bag := by
  refine ⟨f, fd, ["_law_cell_here"], fn_ok (k := 0) F sc__law_bag rfl rfl fun cdv A outer s H E hr => ?_, hm, F.kp, F.binds fun _ _ _ _ _ _ us hl => match us, hl with | [_], _ => rfl⟩
  unfold b__law_bag
  exact (dss_cons (ds_if (dt_cmpV op_geU vGe (dv_callB (pe_callB call_abs (by rfl) B.abs boot_abs (dav_cons (dv_var (pv 0)) dav_nil)) vAbs) (dv_op op_pow vPow (dv_k pe_int fun _ _ => .int) (dv_k pe_int fun _ _ => .int)) (nomark _))
      (dss_one (ds_ret (de_lst (da_cons (de_ofV (dv_callB (pe_callB call_abs (by rfl) B.abs boot_abs (dav_cons (dv_var (pv 0)) dav_nil)) vAbs)) (da_cons (de_k pe_int fun _ _ => .int) da_nil)))))
      dss_nil)
      (dss_one (ds_ret (de_lst (da_cons (de_ofV (dv_op op_modN vMod (dv_var (pv 0)) (dv_k pe_int fun _ _ => .int))) (da_cons (de_k pe_int fun _ _ => .int) da_nil))))))
theorem ok__law_cell {f : Addr} {fd : FuncData} (F : Fun K "_law_cell" "_law_cell" s__law_cell f fd) (hm : mg "_law_cell" = some (.ref f)) (B : Bi mg) (hw : w = TabC.w) (XT : ETx K mg CH [x0])  : Cal P w K mg base (RXP [x0]) "_law_cell" 1 (List.replicate 2 false) m__law_cell := by
  refine ⟨f, fd, ["_law_script", "_law_k"], fn_ok (k := 0) F sc__law_cell rfl rfl fun cdv A outer s H E hr => ?_, hm, F.kp, F.binds fun _ _ _ _ _ _ us hl => match us, hl with | [_, _], _ => rfl⟩
  unfold b__law_cell
  exact (dss_cons (ds_if (dt_cmpV op_ltU vLt (dv_var (pv 1)) (dv_callB (pe_callB call_lenU (by rfl) B.len boot_len (dav_cons (dv_var (pv 0)) dav_nil)) vLen) (nomark _))
      (dss_one (ds_ret (de_ofV (dv_ixU (room1 hr) (dv_var (pv 0)) (dv_var (pv 1)) (fun _ _ => rfl)))))
      dss_nil)
      (dss_one (ds_ret (de_k pe_int fun _ _ => .int))))
theorem ok__law_drawn_table {f : Addr} {fd : FuncData} (F : Fun K "_law_drawn_table" "_law_drawn_table" s__law_drawn_table f fd) (hm : mg "_law_drawn_table" = some (.ref f)) (B : Bi mg) (hw : w = TabC.w) (XT : ETx K mg CH [x0]) (C__law_take : Cal P w K mg base (RXP [x0]) "_law_take" 1 (true :: List.replicate 1 false) m__law_take) : Cal P w K mg base (RXP [x0]) "_law_drawn_table" 2 (true :: List.replicate 1 false) m__law_drawn_table := by
  refine ⟨f, fd, ["_law_bag_here", "_law_house_here"], fn_ok (k := 1) F sc__law_drawn_table rfl rfl fun cdv A outer s H E hr => ?_, hm, F.kp, F.binds fun _ _ _ _ _ _ us hl => match us, hl with | [_, _], _ => rfl⟩
  unfold b__law_drawn_table
  exact (dss_cons (ds_set (ps_set (i := 2) sc__law_drawn_table.nd rfl (by first | exact Or.inl rfl | exact Or.inr rfl) (de_ofV (dv_ixU (room1 hr) (dv_var (pv 1)) (dv_k pe_int fun _ _ => .int) (fun _ _ => rfl)))) (by decide))
      (dss_cons (ds_setLc rfl (ps_setLc (i := 3) (own := [("_law_hand", 13)]) (g := tG _ [0, 1, 2, 3, 4, 5, 6, 7, 8, 9, 10, 11, 12, 14, 15, 16, 17, 18, 19, 20] _) rfl sc__law_drawn_table.nd rfl rfl (sw_true rfl rfl rfl (by decide +kernel)) (di_range1 (by rfl) B.range (da_cons (de_var (pv 2)) da_nil)) (blkOk_by (own := [("_law_hand", 13)]) (by kernel_rfl)) (fun _ _ _ _ _ => (dg_name (pg_name (i := 13) sc__law_drawn_table.nd rfl (by first | exact Or.inl rfl | exact Or.inr rfl)) (by decide))) (fun _ _ _ _ _ => dts_0) (fun _ _ _ _ _ => (de_op op_addU vAdd (de_k pe_int fun _ _ => .int) (de_callIOC C__law_take hr (by decide) rfl takesN0 (pv 0) (da_cons (de_k pe_int fun _ _ => .int) da_nil))))) (by decide))
      (dss_cons (ds_set (ps_set (i := 4) sc__law_drawn_table.nd rfl (by first | exact Or.inl rfl | exact Or.inr rfl) (de_lst (da_cons (de_tup da_nil) da_nil))) (by decide))
      (dss_cons (ds_for (passes_of rfl) rfl (di_list (de_var (pv 3))) (dg_name (pg_name (i := 5) sc__law_drawn_table.nd rfl (by first | exact Or.inl rfl | exact Or.inr rfl)) (by decide))
      (dss_cons (ds_set (ps_set (i := 6) sc__law_drawn_table.nd rfl (by first | exact Or.inl rfl | exact Or.inr rfl) (de_lst da_nil)) (by decide))
      (dss_cons (ds_for (passes_of rfl) rfl (di_list (de_var (pv 4))) (dg_name (pg_name (i := 7) sc__law_drawn_table.nd rfl (by first | exact Or.inl rfl | exact Or.inr rfl)) (by decide))
      (dss_one (ds_extend (ps_expr (pe_bm PySem.F.plainAttrs_list PySem.F.slot_list_extend PySem.F.type_list_extend mt_extend (pv 6) (da_cons (de_lc rfl (pe_lc (own := [("_law_number", 20)]) (g := tG _ [0, 1, 2, 3, 4, 5, 6, 7, 8, 9, 10, 11, 12, 13, 14, 15, 16, 17, 18, 19] _) rfl sc__law_drawn_table.nd (di_range1 (by rfl) B.range (da_cons (de_var (pv 5)) da_nil)) (blkOk_by (own := [("_law_number", 20)]) (by kernel_rfl)) (fun _ _ _ _ _ => (dg_name (pg_name (i := 20) sc__law_drawn_table.nd rfl (by first | exact Or.inl rfl | exact Or.inr rfl)) (by decide))) (fun _ _ _ _ _ => dts_0) (fun _ _ _ _ _ => (de_ofV (dv_op op_catA vAddT (dv_var (pv 7)) (dv_tup (dav_cons (dv_var (pv 20)) dav_nil))))))) da_nil))))))
      (dss_one (ds_set (ps_set (i := 4) sc__law_drawn_table.nd rfl (by first | exact Or.inl rfl | exact Or.inr rfl) (de_var (pv 6))) (by decide))))))
      (dss_cons (ds_set (ps_set (i := 8) sc__law_drawn_table.nd rfl (by first | exact Or.inl rfl | exact Or.inr rfl) (de_lst da_nil)) (by decide))
      (dss_cons (ds_for (passes_of rfl) rfl (di_list (de_ofV (dv_ixU (room1 hr) (dv_var (pv 1)) (dv_k pe_int fun _ _ => .int) (fun _ _ => rfl)))) (dg_tup rfl (dgs_cons (dg_name (pg_name (i := 9) sc__law_drawn_table.nd rfl (by first | exact Or.inl rfl | exact Or.inr rfl)) (by decide)) (dgs_cons (dg_name (pg_name (i := 10) sc__law_drawn_table.nd rfl (by first | exact Or.inl rfl | exact Or.inr rfl)) (by decide)) dgs_nil)))
      (dss_cons (ds_set (ps_set (i := 11) sc__law_drawn_table.nd rfl (by first | exact Or.inl rfl | exact Or.inr rfl) de_dnewT) (by decide))
      (dss_cons (ds_for (passes_of rfl) rfl (di_list (de_var (pv 4))) (dg_name (pg_name (i := 7) sc__law_drawn_table.nd rfl (by first | exact Or.inl rfl | exact Or.inr rfl)) (by decide))
      (dss_cons (ds_set (ps_set (i := 12) sc__law_drawn_table.nd rfl (by first | exact Or.inl rfl | exact Or.inr rfl) (de_callB (pe_callTy call_tuple_of (by rfl) B.tuple boot_tuple (da_cons (de_lc rfl (pe_lc (own := [("_law_hand", 13)]) (g := tG _ [0, 1, 2, 3, 4, 5, 6, 7, 8, 9, 10, 11, 12, 14, 15, 16, 17, 18, 19, 20] _) rfl sc__law_drawn_table.nd (di_list (de_var (pv 10))) (blkOk_by (own := [("_law_hand", 13)]) (by kernel_rfl)) (fun _ _ _ _ _ => (dg_name (pg_name (i := 13) sc__law_drawn_table.nd rfl (by first | exact Or.inl rfl | exact Or.inr rfl)) (by decide))) (fun _ _ _ _ _ => dts_0) (fun _ _ _ _ _ => (de_ofV (dv_ixU (room1 hr) (dv_var (pv 7)) (dv_var (pv 13)) (fun _ _ => rfl)))))) da_nil)) vTuple)) (by decide))
      (dss_one (ds_if (dt_cmpV (op_ninU (room65 hr)) vNin (dv_var (pv 12)) (dv_var (pv 11)) rfl)
      (dss_cons (ds_putO (ps_asg (de_lst da_nil) (pg_sub (pv 11) (de_var (pv 12)) (set_dict (room1 hr)))))
      (dss_one (ds_for (passes_of rfl) rfl (di_list (de_var (pv 10))) (dg_name (pg_name (i := 13) sc__law_drawn_table.nd rfl (by first | exact Or.inl rfl | exact Or.inr rfl)) (by decide))
      (dss_one (ds_appD (ps_expr (pe_bm PySem.F.plainAttrs_list PySem.F.slot_list_append PySem.F.type_list_append mt_append (pe_ix (ix_U (room1 hr)) (pv 11) (dv_var (pv 12)) (fun _ _ => rfl)) (da_cons (de_callIOC C__law_take hr (by decide) rfl (L2N.takes_of rfl rfl rfl rfl) (pv 0) (da_cons (de_ofV (dv_ixU (room1 hr) (dv_var (pv 3)) (dv_var (pv 13)) (fun _ _ => rfl))) da_nil)) da_nil))))))))
      dss_nil))))
      (dss_one (ds_append (ps_expr (pe_bm PySem.F.plainAttrs_list PySem.F.slot_list_append PySem.F.type_list_append mt_append (pv 8) (da_cons (de_var (pv 11)) da_nil))))))))
      (dss_cons (ds_set (ps_set (i := 14) sc__law_drawn_table.nd rfl (by first | exact Or.inl rfl | exact Or.inr rfl) (de_callIOC C__law_take hr (by decide) rfl (L2N.takes_of rfl rfl rfl rfl) (pv 0) (da_cons (de_ofV (dv_callB (pe_callB call_lenU (by rfl) B.len boot_len (dav_cons (dv_var (pv 4)) dav_nil)) vLen)) da_nil))) (by decide))
      (dss_cons (ds_set (ps_set (i := 4) sc__law_drawn_table.nd rfl (by first | exact Or.inl rfl | exact Or.inr rfl) (de_op op_addU vAdd (de_slice (de_var (pv 4)) (do_some (de_var (pv 14))) do_0) (de_slice (de_var (pv 4)) do_0 (do_some (de_var (pv 14)))))) (by decide))
      (dss_cons (ds_set (ps_set (i := 15) sc__law_drawn_table.nd rfl (by first | exact Or.inl rfl | exact Or.inr rfl) (de_lst da_nil)) (by decide))
      (dss_cons (ds_for (passes_of rfl) rfl (di_list (de_var (pv 4))) (dg_name (pg_name (i := 7) sc__law_drawn_table.nd rfl (by first | exact Or.inl rfl | exact Or.inr rfl)) (by decide))
      (dss_cons (ds_set (ps_set (i := 16) sc__law_drawn_table.nd rfl (by first | exact Or.inl rfl | exact Or.inr rfl) (de_lst da_nil)) (by decide))
      (dss_cons (ds_for (passes_of rfl) rfl (di_enum (by rfl) B.enumerate (da_cons (de_ofV (dv_ixU (room1 hr) (dv_var (pv 1)) (dv_k pe_int fun _ _ => .int) (fun _ _ => rfl))) da_nil)) (dg_tup rfl (dgs_cons (dg_name (pg_name (i := 17) sc__law_drawn_table.nd rfl (by first | exact Or.inl rfl | exact Or.inr rfl)) (by decide)) (dgs_cons (dg_tup rfl (dgs_cons (dg_name (pg_name (i := 9) sc__law_drawn_table.nd rfl (by first | exact Or.inl rfl | exact Or.inr rfl)) (by decide)) (dgs_cons (dg_name (pg_name (i := 10) sc__law_drawn_table.nd rfl (by first | exact Or.inl rfl | exact Or.inr rfl)) (by decide)) dgs_nil))) dgs_nil)))
      (dss_cons (ds_set (ps_set (i := 18) sc__law_drawn_table.nd rfl (by first | exact Or.inl rfl | exact Or.inr rfl) (de_callB (pe_callTy call_list_of (by rfl) B.list boot_list (da_cons (de_var (pv 7)) da_nil)) vList)) (by decide))
      (dss_cons (ds_set (ps_set (i := 19) sc__law_drawn_table.nd rfl (by first | exact Or.inl rfl | exact Or.inr rfl) (de_ixU (room1 hr) (de_ofV (dv_ixU (room1 hr) (dv_var (pv 8)) (dv_var (pv 17)) (fun _ _ => rfl))) (de_callB (pe_callTy call_tuple_of (by rfl) B.tuple boot_tuple (da_cons (de_lc rfl (pe_lc (own := [("_law_hand", 13)]) (g := tG _ [0, 1, 2, 3, 4, 5, 6, 7, 8, 9, 10, 11, 12, 14, 15, 16, 17, 18, 19, 20] _) rfl sc__law_drawn_table.nd (di_list (de_var (pv 10))) (blkOk_by (own := [("_law_hand", 13)]) (by kernel_rfl)) (fun _ _ _ _ _ => (dg_name (pg_name (i := 13) sc__law_drawn_table.nd rfl (by first | exact Or.inl rfl | exact Or.inr rfl)) (by decide))) (fun _ _ _ _ _ => dts_0) (fun _ _ _ _ _ => (de_ofV (dv_ixU (room1 hr) (dv_var (pv 7)) (dv_var (pv 13)) (fun _ _ => rfl)))))) da_nil)) vTuple) (fun _ _ => rfl))) (by decide))
      (dss_cons (ds_for (passes_of rfl) rfl (di_zip (pi_zip (by rfl) B.zip (da_cons (de_var (pv 10)) (da_cons (de_var (pv 19)) da_nil)))) (dg_tup rfl (dgs_cons (dg_name (pg_name (i := 13) sc__law_drawn_table.nd rfl (by first | exact Or.inl rfl | exact Or.inr rfl)) (by decide)) (dgs_cons (dg_name (pg_name (i := 20) sc__law_drawn_table.nd rfl (by first | exact Or.inl rfl | exact Or.inr rfl)) (by decide)) dgs_nil)))
      (dss_one (ds_setL (ps_asg (de_var (pv 20)) (pg_sub (pv 18) (de_var (pv 13)) set_list)))))
      (dss_one (ds_append (ps_expr (pe_bm PySem.F.plainAttrs_list PySem.F.slot_list_append PySem.F.type_list_append mt_append (pv 16) (da_cons (de_meth vIndex (pe_bm PySem.F.plainAttrs_list PySem.F.slot_list_index PySem.F.type_list_index (mt_indexD (room65 hr)) (de_var (pv 4)) (da_cons (de_callBV (pe_callTy call_tuple_of (by rfl) B.tuple boot_tuple (dav_cons (dv_var (pv 18)) dav_nil)) vTuple) da_nil))) da_nil)))))))))
      (dss_one (ds_append (ps_expr (pe_bm PySem.F.plainAttrs_list PySem.F.slot_list_append PySem.F.type_list_append mt_append (pv 15) (da_cons (de_tup (da_cons (de_var (pv 7)) (da_cons (de_cmpEV (op_eqU (room64 hr)) vEq (de_callIOC C__law_take hr (by decide) rfl (L2N.takes_of rfl rfl rfl rfl) (pv 0) (da_cons (de_k pe_int fun _ _ => .int) da_nil)) (dv_k pe_int fun _ _ => .int) (nomark _)) (da_cons (de_callBV (pe_callTy call_tuple_of (by rfl) B.tuple boot_tuple (dav_cons (dv_var (pv 16)) dav_nil)) vTuple) da_nil)))) da_nil))))))))
      (dss_one (ds_ret (de_mv (pv 15))))))))))))))
theorem ok_is_whole {f : Addr} {fd : FuncData} (F : Fun K "is_whole" "is_whole" s_is_whole f fd) (hm : mg "is_whole" = some (.ref f)) (B : Bi mg) (hw : w = TabC.w) (XT : ETx K mg CH [x0])  : Cal P w K mg base (RXP [x0]) "is_whole" 1 (List.replicate 1 false) m_is_whole := by
  refine ⟨f, fd, ["thing"], fn_ok (k := 0) F sc_is_whole rfl rfl fun cdv A outer s H E hr => ?_, hm, F.kp, F.binds fun _ _ _ _ _ _ us hl => match us, hl with | [_], _ => rfl⟩
  unfold b_is_whole
  exact (dss_one (ds_ret (de_and (de_ofV (dv_callB (pe_callB call_isi (by rfl) B.isinstance boot_isinstance (dav_cons (dv_var (pv 0)) (dav_cons (dv_k (pe_bltn (v := .ty "int") (by rfl) B.int boot_int rfl) fun _ _ => .gv) dav_nil))) vIsi)) (de_one (de_not (de_ofV (dv_callB (pe_callB call_isi (by rfl) B.isinstance boot_isinstance (dav_cons (dv_var (pv 0)) (dav_cons (dv_k (pe_bltn (v := .ty "bool") (by rfl) B.bool boot_bool rfl) fun _ _ => .gv) dav_nil))) vIsi)))))))
theorem ok_is_sign {f : Addr} {fd : FuncData} (F : Fun K "is_sign" "is_sign" s_is_sign f fd) (hm : mg "is_sign" = some (.ref f)) (B : Bi mg) (hw : w = TabC.w) (XT : ETx K mg CH [x0])  : Cal P w K mg base (RXP [x0]) "is_sign" 1 (List.replicate 1 false) m_is_sign := by
  refine ⟨f, fd, ["thing"], fn_ok (k := 0) F sc_is_sign rfl rfl fun cdv A outer s H E hr => ?_, hm, F.kp, F.binds fun _ _ _ _ _ _ us hl => match us, hl with | [_], _ => rfl⟩
  unfold b_is_sign
  exact (dss_one (ds_ret (de_and (de_ofV (dv_callB (pe_callB call_isi (by rfl) B.isinstance boot_isinstance (dav_cons (dv_var (pv 0)) (dav_cons (dv_k (pe_bltn (v := .ty "str") (by rfl) B.str boot_str rfl) fun _ _ => .gv) dav_nil))) vIsi)) (de_and (de_ofV (dv_cmp (op_eqU (room64 hr)) vEq (dv_callB (pe_callB call_lenU (by rfl) B.len boot_len (dav_cons (dv_var (pv 0)) dav_nil)) vLen) (dv_k pe_int fun _ _ => .int) (nomark _))) (de_one (de_ofV (dv_cmp (op_inU (room65 hr)) vIn (dv_var (pv 0)) (dv_k (pe_globS (by rfl) B.c_LETTERS) fun _ _ => .str) rfl)))))))
theorem ok_is_rising {f : Addr} {fd : FuncData} (F : Fun K "is_rising" "is_rising" s_is_rising f fd) (hm : mg "is_rising" = some (.ref f)) (B : Bi mg) (hw : w = TabC.w) (XT : ETx K mg CH [x0]) (C_is_whole : Cal P w K mg base (RXP [x0]) "is_whole" 1 (List.replicate 1 false) m_is_whole) : Cal P w K mg base (RXP [x0]) "is_rising" 2 (List.replicate 2 false) m_is_rising := by
  refine ⟨f, fd, ["things", "many"], fn_ok (k := 1) F sc_is_rising rfl rfl fun cdv A outer s H E hr => ?_, hm, F.kp, F.binds fun _ _ _ _ _ _ us hl => match us, hl with | [_, _], _ => rfl⟩
  unfold b_is_rising
  exact (dss_cons (ds_if (dt_not (dt_valV (dv_callB (pe_callB call_isi (by rfl) B.isinstance boot_isinstance (dav_cons (dv_var (pv 0)) (dav_cons (dv_k (pe_bltn (v := .ty "list") (by rfl) B.list PyProof.Rows.boot_list rfl) fun _ _ => .gv) dav_nil))) vIsi)))
      (dss_one (ds_ret (de_k pe_bl fun _ _ => .bl)))
      dss_nil)
      (dss_cons (ds_set (ps_set (i := 2) sc_is_rising.nd rfl (by first | exact Or.inl rfl | exact Or.inr rfl) (de_ofV (dv_un un_neg vNeg (dv_k pe_int fun _ _ => .int)))) (by decide))
      (dss_cons (ds_for (passes_of rfl) rfl (di_list (de_var (pv 0))) (dg_name (pg_name (i := 3) sc_is_rising.nd rfl (by first | exact Or.inl rfl | exact Or.inr rfl)) (by decide))
      (dss_cons (ds_if (PW.pt (dw_or (dt_not (dt_val (de_callC C_is_whole hr (by decide) rfl (L2N.takes_of rfl rfl rfl rfl) (da_cons (de_var (pv 3)) da_nil)))) (dw_or1 (dt_not (dt_chain op_ltU vLt op_ltU vLt (de_var (pv 2)) (de_var (pv 3)) (de_var (pv 1)))))))
      (dss_one (ds_ret (de_k pe_bl fun _ _ => .bl)))
      dss_nil)
      (dss_one (ds_set (ps_set (i := 2) sc_is_rising.nd rfl (by first | exact Or.inl rfl | exact Or.inr rfl) (de_var (pv 3))) (by decide)))))
      (dss_one (ds_ret (de_k pe_bl fun _ _ => .bl))))))
theorem ok_is_entry {f : Addr} {fd : FuncData} (F : Fun K "is_entry" "is_entry" s_is_entry f fd) (hm : mg "is_entry_houses" = some (.ref f)) (B : Bi mg) (hw : w = TabC.w) (XT : ETx K mg CH [x0]) (C_is_rising : Cal P w K mg base (RXP [x0]) "is_rising" 2 (List.replicate 2 false) m_is_rising) (C_is_sign : Cal P w K mg base (RXP [x0]) "is_sign" 1 (List.replicate 1 false) m_is_sign) : Cal P w K mg base (RXP [x0]) "is_entry_houses" 3 (List.replicate 2 false) m_is_entry := by
  refine ⟨f, fd, ["thing", "hands"], fn_ok (k := 2) F sc_is_entry rfl rfl fun cdv A outer s H E hr => ?_, hm, F.kp, F.binds fun _ _ _ _ _ _ us hl => match us, hl with | [_, _], _ => rfl⟩
  unfold b_is_entry
  exact (dss_cons (ds_if (PW.pt (dw_or (dt_not (dt_valV (dv_callB (pe_callB call_isi (by rfl) B.isinstance boot_isinstance (dav_cons (dv_var (pv 0)) (dav_cons (dv_k (pe_bltn (v := .ty "tuple") (by rfl) B.tuple boot_tuple rfl) fun _ _ => .gv) dav_nil))) vIsi))) (dw_or (dt_cmpV (op_neU (room64 hr)) vNe (dv_callB (pe_callB call_lenU (by rfl) B.len boot_len (dav_cons (dv_var (pv 0)) dav_nil)) vLen) (dv_k pe_int fun _ _ => .int) (nomark _)) (dw_or1 (dt_not (dt_val (de_callC C_is_sign hr (by decide) rfl (L2N.takes_of rfl rfl rfl rfl) (da_cons (de_ofV (dv_ixU (room1 hr) (dv_var (pv 0)) (dv_k pe_int fun _ _ => .int) (fun _ _ => rfl))) da_nil))))))))
      (dss_one (ds_ret (de_k pe_bl fun _ _ => .bl)))
      dss_nil)
      (dss_one (ds_ret (de_and (de_callC C_is_rising hr (by decide) rfl (L2N.takes_of rfl rfl rfl rfl) (da_cons (de_ofV (dv_ixU (room1 hr) (dv_var (pv 0)) (dv_k pe_int fun _ _ => .int) (fun _ _ => rfl))) (da_cons (de_var (pv 1)) da_nil))) (de_one (de_ofV (dv_cmp op_gtU vGt (dv_callB (pe_callB call_lenU (by rfl) B.len boot_len (dav_cons (dv_ixU (room1 hr) (dv_var (pv 0)) (dv_k pe_int fun _ _ => .int) (fun _ _ => rfl)) dav_nil)) vLen) (dv_k pe_int fun _ _ => .int) (nomark _))))))))
theorem ok_is_house {f : Addr} {fd : FuncData} (F : Fun K "is_house" "is_house" s_is_house f fd) (hm : mg "is_house" = some (.ref f)) (B : Bi mg) (hw : w = TabC.w) (XT : ETx K mg CH [x0]) (C_is_entry : Cal P w K mg base (RXP [x0]) "is_entry_houses" 3 (List.replicate 2 false) m_is_entry) (C_is_whole : Cal P w K mg base (RXP [x0]) "is_whole" 1 (List.replicate 1 false) m_is_whole) : Cal P w K mg base (RXP [x0]) "is_house" 4 (List.replicate 1 false) m_is_house := by
  refine ⟨f, fd, ["thing"], fn_ok (k := 3) F sc_is_house rfl rfl fun cdv A outer s H E hr => ?_, hm, F.kp, F.binds fun _ _ _ _ _ _ us hl => match us, hl with | [_], _ => rfl⟩
  unfold b_is_house
  exact (dss_cons (ds_if (PW.pt (dw_or (dt_not (dt_valV (dv_callB (pe_callB call_isi (by rfl) B.isinstance boot_isinstance (dav_cons (dv_var (pv 0)) (dav_cons (dv_k (pe_bltn (v := .ty "tuple") (by rfl) B.tuple boot_tuple rfl) fun _ _ => .gv) dav_nil))) vIsi))) (dw_or1 (dt_cmpV (op_neU (room64 hr)) vNe (dv_callB (pe_callB call_lenU (by rfl) B.len boot_len (dav_cons (dv_var (pv 0)) dav_nil)) vLen) (dv_k pe_int fun _ _ => .int) (nomark _)))))
      (dss_one (ds_ret (de_k pe_bl fun _ _ => .bl)))
      dss_nil)
      (dss_cons (ds_asg (ps_asg (de_var (pv 0)) (dg_tup rfl (dgs_cons (dg_name (pg_name (i := 1) sc_is_house.nd rfl (by first | exact Or.inl rfl | exact Or.inr rfl)) (by decide)) (dgs_cons (dg_name (pg_name (i := 2) sc_is_house.nd rfl (by first | exact Or.inl rfl | exact Or.inr rfl)) (by decide)) dgs_nil)))))
      (dss_cons (ds_if (PW.pt (dw_or (dt_not (dt_val (de_callC C_is_whole hr (by decide) rfl (L2N.takes_of rfl rfl rfl rfl) (da_cons (de_var (pv 1)) da_nil)))) (dw_or1 (dt_not (dt_chain op_leU vLe op_leU vLe (de_k (pe_globI (by rfl) B.c_FEWEST_HANDS) fun _ _ => .int) (de_var (pv 1)) (de_k (pe_globI (by rfl) B.c_MOST_HANDS) fun _ _ => .int))))))
      (dss_one (ds_ret (de_k pe_bl fun _ _ => .bl)))
      dss_nil)
      (dss_cons (ds_if (PW.pt (dw_or (dt_not (dt_valV (dv_callB (pe_callB call_isi (by rfl) B.isinstance boot_isinstance (dav_cons (dv_var (pv 2)) (dav_cons (dv_k (pe_bltn (v := .ty "list") (by rfl) B.list PyProof.Rows.boot_list rfl) fun _ _ => .gv) dav_nil))) vIsi))) (dw_or1 (dt_not (dt_chain op_leU vLe op_leU vLe (de_k pe_int fun _ _ => .int) (de_ofV (dv_callB (pe_callB call_lenU (by rfl) B.len boot_len (dav_cons (dv_var (pv 2)) dav_nil)) vLen)) (de_k (pe_globI (by rfl) B.c_MOST_LETTERS) fun _ _ => .int))))))
      (dss_one (ds_ret (de_k pe_bl fun _ _ => .bl)))
      dss_nil)
      (dss_cons (ds_set (ps_set (i := 3) sc_is_house.nd rfl (by first | exact Or.inl rfl | exact Or.inr rfl) (de_k pe_str fun _ _ => .str)) (by decide))
      (dss_cons (ds_for (passes_of rfl) rfl (di_list (de_var (pv 2))) (dg_name (pg_name (i := 4) sc_is_house.nd rfl (by first | exact Or.inl rfl | exact Or.inr rfl)) (by decide))
      (dss_cons (ds_if (PW.pt (dw_or (dt_not (dt_val (de_callC C_is_entry hr (by decide) rfl (L2N.takes_of rfl rfl rfl rfl) (da_cons (de_var (pv 4)) (da_cons (de_var (pv 1)) da_nil))))) (dw_or1 (dt_not (dt_cmpV op_ltU vLt (dv_var (pv 3)) (dv_ixU (room1 hr) (dv_var (pv 4)) (dv_k pe_int fun _ _ => .int) (fun _ _ => rfl)) (nomark _))))))
      (dss_one (ds_ret (de_k pe_bl fun _ _ => .bl)))
      dss_nil)
      (dss_one (ds_set (ps_set (i := 3) sc_is_house.nd rfl (by first | exact Or.inl rfl | exact Or.inr rfl) (de_ofV (dv_ixU (room1 hr) (dv_var (pv 4)) (dv_k pe_int fun _ _ => .int) (fun _ _ => rfl)))) (by decide)))))
      (dss_one (ds_ret (de_k pe_bl fun _ _ => .bl)))))))))
theorem ok_look_house {f : Addr} {fd : FuncData} (F : Fun K "look_house" "look_house" s_look_house f fd) (hm : mg "look_house" = some (.ref f)) (B : Bi mg) (hw : w = TabC.w) (XT : ETx K mg CH [x0]) (C_is_house : Cal P w K mg base (RXP [x0]) "is_house" 4 (List.replicate 1 false) m_is_house) : Cal P w K mg base (RXP [x0]) "look_house" 5 (List.replicate 1 false) m_look_house := by
  refine ⟨f, fd, ["thing"], fn_ok (k := 4) F sc_look_house rfl rfl fun cdv A outer s H E hr => ?_, hm, F.kp, F.binds fun _ _ _ _ _ _ us hl => match us, hl with | [_], _ => rfl⟩
  unfold b_look_house
  exact (dss_one (ds_if (dt_not (dt_val (de_callC C_is_house hr (by decide) rfl (L2N.takes_of rfl rfl rfl rfl) (da_cons (de_var (pv 0)) da_nil))))
      (dss_one (ds_raise (i := 0) (C := x0) XT.tab (XT.ex 0 (by decide) (by decide) _ rfl) rfl rfl rfl (L2N.takes_of rfl rfl rfl rfl) (by rfl)))
      dss_nil))
theorem ok_is_entry_tables {f : Addr} {fd : FuncData} (F : Fun K "is_entry" "is_entry" s_is_entry_tables f fd) (hm : mg "is_entry_tables" = some (.ref f)) (B : Bi mg) (hw : w = TabC.w) (XT : ETx K mg CH [x0]) (C_is_whole : Cal P w K mg base (RXP [x0]) "is_whole" 1 (List.replicate 1 false) m_is_whole) : Cal P w K mg base (RXP [x0]) "is_entry_tables" 2 (List.replicate 3 false) m_is_entry_tables := by
  refine ⟨f, fd, ["house", "thing", "many"], fn_ok (k := 1) F sc_is_entry_tables rfl rfl fun cdv A outer s H E hr => ?_, hm, F.kp, F.binds fun _ _ _ _ _ _ us hl => match us, hl with | [_, _, _], _ => rfl⟩
  unfold b_is_entry_tables
  exact (dss_cons (ds_if (PW.pt (dw_or (dt_not (dt_valV (dv_callB (pe_callB call_isi (by rfl) B.isinstance boot_isinstance (dav_cons (dv_var (pv 1)) (dav_cons (dv_k (pe_bltn (v := .ty "tuple") (by rfl) B.tuple boot_tuple rfl) fun _ _ => .gv) dav_nil))) vIsi))) (dw_or (dt_cmpV (op_neU (room64 hr)) vNe (dv_callB (pe_callB call_lenU (by rfl) B.len boot_len (dav_cons (dv_var (pv 1)) dav_nil)) vLen) (dv_k pe_int fun _ _ => .int) (nomark _)) (dw_or1 (dt_not (dt_valV (dv_callB (pe_callB call_isi (by rfl) B.isinstance boot_isinstance (dav_cons (dv_ixU (room1 hr) (dv_var (pv 1)) (dv_k pe_int fun _ _ => .int) (fun _ _ => rfl)) (dav_cons (dv_k (pe_bltn (v := .ty "bool") (by rfl) B.bool boot_bool rfl) fun _ _ => .gv) dav_nil))) vIsi)))))))
      (dss_one (ds_ret (de_k pe_bl fun _ _ => .bl)))
      dss_nil)
      (dss_cons (ds_asg (ps_asg (de_var (pv 1)) (dg_tup rfl (dgs_cons (dg_name (pg_name (i := 3) sc_is_entry_tables.nd rfl (by first | exact Or.inl rfl | exact Or.inr rfl)) (by decide)) (dgs_cons (dg_name (pg_name (i := 4) sc_is_entry_tables.nd rfl (by first | exact Or.inl rfl | exact Or.inr rfl)) (by decide)) (dgs_cons (dg_name (pg_name (i := 5) sc_is_entry_tables.nd rfl (by first | exact Or.inl rfl | exact Or.inr rfl)) (by decide)) dgs_nil))))))
      (dss_cons (ds_if (PW.pt (dw_or (dt_not (dt_valV (dv_callB (pe_callB call_isi (by rfl) B.isinstance boot_isinstance (dav_cons (dv_var (pv 3)) (dav_cons (dv_k (pe_bltn (v := .ty "tuple") (by rfl) B.tuple boot_tuple rfl) fun _ _ => .gv) dav_nil))) vIsi))) (dw_or1 (dt_cmpV (op_neU (room64 hr)) vNe (dv_callB (pe_callB call_lenU (by rfl) B.len boot_len (dav_cons (dv_var (pv 3)) dav_nil)) vLen) (dv_ixU (room1 hr) (dv_var (pv 0)) (dv_k pe_int fun _ _ => .int) (fun _ _ => rfl)) (nomark _)))))
      (dss_one (ds_ret (de_k pe_bl fun _ _ => .bl)))
      dss_nil)
      (dss_cons (ds_if (PW.pt (dw_or (dt_not (dt_valV (dv_callB (pe_callB call_isi (by rfl) B.isinstance boot_isinstance (dav_cons (dv_var (pv 5)) (dav_cons (dv_k (pe_bltn (v := .ty "tuple") (by rfl) B.tuple boot_tuple rfl) fun _ _ => .gv) dav_nil))) vIsi))) (dw_or1 (dt_cmpV (op_neU (room64 hr)) vNe (dv_callB (pe_callB call_lenU (by rfl) B.len boot_len (dav_cons (dv_var (pv 5)) dav_nil)) vLen) (dv_callB (pe_callB call_lenU (by rfl) B.len boot_len (dav_cons (dv_ixU (room1 hr) (dv_var (pv 0)) (dv_k pe_int fun _ _ => .int) (fun _ _ => rfl)) dav_nil)) vLen) (nomark _)))))
      (dss_one (ds_ret (de_k pe_bl fun _ _ => .bl)))
      dss_nil)
      (dss_cons (ds_if (dt_not (dt_val (de_callB (pe_callB (cr_all rfl) (by rfl) B.all boot_all (da_cons (de_lc rfl (pe_lc (own := [("number", 6)]) (g := tG _ [0, 1, 2, 3, 4, 5] _) rfl sc_is_entry_tables.nd (di_lt (de_var (pv 3))) (blkOk_by (own := [("number", 6)]) (by kernel_rfl)) (fun _ _ _ _ _ => (dg_name (pg_name (i := 6) sc_is_entry_tables.nd rfl (by first | exact Or.inl rfl | exact Or.inr rfl)) (by decide))) (fun _ _ _ _ _ => dts_0) (fun _ _ _ _ _ => (de_and (de_callC C_is_whole hr (by decide) rfl takesN0 (da_cons (de_var (pv 6)) da_nil)) (de_one (de_ofV (dv_cmp op_geU vGe (dv_var (pv 6)) (dv_k pe_int fun _ _ => .int) (nomark _)))))))) da_nil)) vAll)))
      (dss_one (ds_ret (de_k pe_bl fun _ _ => .bl)))
      dss_nil)
      (dss_one (ds_ret (de_callB (pe_callB (cr_all rfl) (by rfl) B.all boot_all (da_cons (de_lc rfl (pe_lc (own := [("number", 6)]) (g := tG _ [0, 1, 2, 3, 4, 5] _) rfl sc_is_entry_tables.nd (di_lt (de_var (pv 5))) (blkOk_by (own := [("number", 6)]) (by kernel_rfl)) (fun _ _ _ _ _ => (dg_name (pg_name (i := 6) sc_is_entry_tables.nd rfl (by first | exact Or.inl rfl | exact Or.inr rfl)) (by decide))) (fun _ _ _ _ _ => dts_0) (fun _ _ _ _ _ => (de_and (de_callC C_is_whole hr (by decide) rfl takesN0 (da_cons (de_var (pv 6)) da_nil)) (de_one (de_chain op_leU vLe op_ltU vLt (de_k pe_int fun _ _ => .int) (de_var (pv 6)) (de_var (pv 2)))))))) da_nil)) vAll))))))))
theorem ok_is_done_apart {f : Addr} {fd : FuncData} (F : Fun K "is_done_apart" "is_done_apart" s_is_done_apart f fd) (hm : mg "is_done_apart" = some (.ref f)) (B : Bi mg) (hw : w = TabC.w) (XT : ETx K mg CH [x0])  : Cal P w K mg base (RXP [x0]) "is_done_apart" 1 (List.replicate 3 false) m_is_done_apart := by
  refine ⟨f, fd, ["house", "table", "k"], fn_ok (k := 0) F sc_is_done_apart rfl rfl fun cdv A outer s H E hr => ?_, hm, F.kp, F.binds fun _ _ _ _ _ _ us hl => match us, hl with | [_, _, _], _ => rfl⟩
  unfold b_is_done_apart
  exact (dss_cons (ds_set (ps_set (i := 3) sc_is_done_apart.nd rfl (by first | exact Or.inl rfl | exact Or.inr rfl) (de_ofV (dv_ixU (room1 hr) (dv_ixU (room1 hr) (dv_ixU (room1 hr) (dv_var (pv 0)) (dv_k pe_int fun _ _ => .int) (fun _ _ => rfl)) (dv_var (pv 2)) (fun _ _ => rfl)) (dv_k pe_int fun _ _ => .int) (fun _ _ => rfl)))) (by decide))
      (dss_cons (ds_set (ps_set (i := 4) sc_is_done_apart.nd rfl (by first | exact Or.inl rfl | exact Or.inr rfl) de_dnewT) (by decide))
      (dss_cons (ds_for (passes_of rfl) rfl (di_lt (de_var (pv 1))) (dg_tup rfl (dgs_cons (dg_name (pg_name (i := 5) sc_is_done_apart.nd rfl (by first | exact Or.inl rfl | exact Or.inr rfl)) (by decide)) (dgs_cons (dg_name (pg_name (i := 6) sc_is_done_apart.nd rfl (by first | exact Or.inl rfl | exact Or.inr rfl)) (by decide)) (dgs_cons (dg_name (pg_name (i := 7) sc_is_done_apart.nd rfl (by first | exact Or.inl rfl | exact Or.inr rfl)) (by decide)) dgs_nil))))
      (dss_cons (ds_set (ps_set (i := 8) sc_is_done_apart.nd rfl (by first | exact Or.inl rfl | exact Or.inr rfl) (de_ofV (dv_ixU (room1 hr) (dv_ixU (room1 hr) (dv_var (pv 1)) (dv_ixU (room1 hr) (dv_var (pv 7)) (dv_var (pv 2)) (fun _ _ => rfl)) (fun _ _ => rfl)) (dv_k pe_int fun _ _ => .int) (fun _ _ => rfl)))) (by decide))
      (dss_cons (ds_for (passes_of rfl) rfl (di_range1 (by rfl) B.range (da_cons (de_ofV (dv_ixU (room1 hr) (dv_var (pv 0)) (dv_k pe_int fun _ _ => .int) (fun _ _ => rfl))) da_nil)) (dg_name (pg_name (i := 9) sc_is_done_apart.nd rfl (by first | exact Or.inl rfl | exact Or.inr rfl)) (by decide))
      (dss_one (ds_if (PW.pt (dw_and (dt_cmpV (op_ninU (room65 hr)) vNin (dv_var (pv 9)) (dv_var (pv 3)) rfl) (dw_and1 (dt_cmpV (op_neU (room64 hr)) vNe (dv_ixU (room1 hr) (dv_var (pv 8)) (dv_var (pv 9)) (fun _ _ => rfl)) (dv_ixU (room1 hr) (dv_var (pv 5)) (dv_var (pv 9)) (fun _ _ => rfl)) (nomark _)))))
      (dss_one (ds_ret (de_k pe_bl fun _ _ => .bl)))
      dss_nil)))
      (dss_cons (ds_set (ps_set (i := 10) sc_is_done_apart.nd rfl (by first | exact Or.inl rfl | exact Or.inr rfl) (de_callB (pe_callTy call_tuple_of (by rfl) B.tuple boot_tuple (da_cons (de_lc rfl (pe_lc (own := [("hand", 9)]) (g := tG _ [0, 1, 2, 3, 4, 5, 6, 7, 8, 10, 11] _) rfl sc_is_done_apart.nd (di_list (de_var (pv 3))) (blkOk_by (own := [("hand", 9)]) (by kernel_rfl)) (fun _ _ _ _ _ => (dg_name (pg_name (i := 9) sc_is_done_apart.nd rfl (by first | exact Or.inl rfl | exact Or.inr rfl)) (by decide))) (fun _ _ _ _ _ => dts_0) (fun _ _ _ _ _ => (de_ofV (dv_ixU (room1 hr) (dv_var (pv 5)) (dv_var (pv 9)) (fun _ _ => rfl)))))) da_nil)) vTuple)) (by decide))
      (dss_cons (ds_set (ps_set (i := 11) sc_is_done_apart.nd rfl (by first | exact Or.inl rfl | exact Or.inr rfl) (de_callB (pe_callTy call_tuple_of (by rfl) B.tuple boot_tuple (da_cons (de_lc rfl (pe_lc (own := [("hand", 9)]) (g := tG _ [0, 1, 2, 3, 4, 5, 6, 7, 8, 10, 11] _) rfl sc_is_done_apart.nd (di_list (de_var (pv 3))) (blkOk_by (own := [("hand", 9)]) (by kernel_rfl)) (fun _ _ _ _ _ => (dg_name (pg_name (i := 9) sc_is_done_apart.nd rfl (by first | exact Or.inl rfl | exact Or.inr rfl)) (by decide))) (fun _ _ _ _ _ => dts_0) (fun _ _ _ _ _ => (de_ofV (dv_ixU (room1 hr) (dv_var (pv 8)) (dv_var (pv 9)) (fun _ _ => rfl)))))) da_nil)) vTuple)) (by decide))
      (dss_cons (ds_if (PW.pt (dw_and (dt_cmpV (op_inU (room65 hr)) vIn (dv_var (pv 10)) (dv_var (pv 4)) rfl) (dw_and1 (dt_cmpV (op_neU (room64 hr)) vNe (dv_ixU (room1 hr) (dv_var (pv 4)) (dv_var (pv 10)) (fun _ _ => rfl)) (dv_var (pv 11)) (nomark _)))))
      (dss_one (ds_ret (de_k pe_bl fun _ _ => .bl)))
      dss_nil)
      (dss_one (ds_putD (ps_asg (de_var (pv 11)) (pg_sub (pv 4) (de_var (pv 10)) (set_dict (room1 hr))))))))))))
      (dss_one (ds_ret (de_k pe_bl fun _ _ => .bl))))))
theorem ok_is_table_of {f : Addr} {fd : FuncData} (F : Fun K "is_table_of" "is_table_of" s_is_table_of f fd) (hm : mg "is_table_of" = some (.ref f)) (B : Bi mg) (hw : w = TabC.w) (XT : ETx K mg CH [x0]) (C_is_done_apart : Cal P w K mg base (RXP [x0]) "is_done_apart" 1 (List.replicate 3 false) m_is_done_apart) (C_is_entry_tables : Cal P w K mg base (RXP [x0]) "is_entry_tables" 2 (List.replicate 3 false) m_is_entry_tables) : Cal P w K mg base (RXP [x0]) "is_table_of" 3 (List.replicate 2 false) m_is_table_of := by
  refine ⟨f, fd, ["house", "thing"], fn_ok (k := 2) F sc_is_table_of rfl rfl fun cdv A outer s H E hr => ?_, hm, F.kp, F.binds fun _ _ _ _ _ _ us hl => match us, hl with | [_, _], _ => rfl⟩
  unfold b_is_table_of
  exact (dss_cons (ds_if (PW.pt (dw_or (dt_not (dt_valV (dv_callB (pe_callB call_isi (by rfl) B.isinstance boot_isinstance (dav_cons (dv_var (pv 1)) (dav_cons (dv_k (pe_bltn (v := .ty "list") (by rfl) B.list PyProof.Rows.boot_list rfl) fun _ _ => .gv) dav_nil))) vIsi))) (dw_or1 (dt_not (dt_chain op_leU vLe op_leU vLe (de_k pe_int fun _ _ => .int) (de_ofV (dv_callB (pe_callB call_lenU (by rfl) B.len boot_len (dav_cons (dv_var (pv 1)) dav_nil)) vLen)) (de_k (pe_globI (by rfl) B.c_MOST) fun _ _ => .int))))))
      (dss_one (ds_ret (de_k pe_bl fun _ _ => .bl)))
      dss_nil)
      (dss_cons (ds_if (dt_not (dt_val (de_callB (pe_callB (cr_all rfl) (by rfl) B.all boot_all (da_cons (de_lc rfl (pe_lc (own := [("entry", 3)]) (g := tG _ [0, 1, 2, 4] _) rfl sc_is_table_of.nd (di_lt (de_var (pv 1))) (blkOk_by (own := [("entry", 3)]) (by kernel_rfl)) (fun _ _ _ _ _ => (dg_name (pg_name (i := 3) sc_is_table_of.nd rfl (by first | exact Or.inl rfl | exact Or.inr rfl)) (by decide))) (fun _ _ _ _ _ => dts_0) (fun _ _ _ _ _ => (de_callC C_is_entry_tables hr (by decide) rfl takesN0 (da_cons (de_var (pv 0)) (da_cons (de_var (pv 3)) (da_cons (de_ofV (dv_callB (pe_callB call_lenU (by rfl) B.len boot_len (dav_cons (dv_var (pv 1)) dav_nil)) vLen)) da_nil))))))) da_nil)) vAll)))
      (dss_one (ds_ret (de_k pe_bl fun _ _ => .bl)))
      dss_nil)
      (dss_cons (ds_set (ps_set (i := 2) sc_is_table_of.nd rfl (by first | exact Or.inl rfl | exact Or.inr rfl) de_dnewT) (by decide))
      (dss_cons (ds_for (passes_of rfl) rfl (di_lt (de_var (pv 1))) (dg_name (pg_name (i := 3) sc_is_table_of.nd rfl (by first | exact Or.inl rfl | exact Or.inr rfl)) (by decide))
      (dss_one (ds_putD (ps_asg (de_k pe_bl fun _ _ => .bl) (pg_sub (pv 2) (de_ofV (dv_ixU (room1 hr) (dv_var (pv 3)) (dv_k pe_int fun _ _ => .int) (fun _ _ => rfl))) (set_dict (room1 hr)))))))
      (dss_cons (ds_if (dt_cmpV op_ltU vLt (dv_callB (pe_callB call_lenT (by rfl) B.len boot_len (dav_cons (dv_var (pv 2)) dav_nil)) vLenT) (dv_callB (pe_callB call_lenU (by rfl) B.len boot_len (dav_cons (dv_var (pv 1)) dav_nil)) vLen) (nomark _))
      (dss_one (ds_ret (de_k pe_bl fun _ _ => .bl)))
      dss_nil)
      (dss_one (ds_ret (de_callB (pe_callB (cr_all rfl) (by rfl) B.all boot_all (da_cons (de_lc rfl (pe_lc (own := [("k", 4)]) (g := tG _ [0, 1, 2, 3] _) rfl sc_is_table_of.nd (di_range1 (by rfl) B.range (da_cons (de_ofV (dv_callB (pe_callB call_lenU (by rfl) B.len boot_len (dav_cons (dv_ixU (room1 hr) (dv_var (pv 0)) (dv_k pe_int fun _ _ => .int) (fun _ _ => rfl)) dav_nil)) vLen)) da_nil)) (blkOk_by (own := [("k", 4)]) (by kernel_rfl)) (fun _ _ _ _ _ => (dg_name (pg_name (i := 4) sc_is_table_of.nd rfl (by first | exact Or.inl rfl | exact Or.inr rfl)) (by decide))) (fun _ _ _ _ _ => dts_0) (fun _ _ _ _ _ => (de_callC C_is_done_apart hr (by decide) rfl takesN0 (da_cons (de_var (pv 0)) (da_cons (de_var (pv 1)) (da_cons (de_var (pv 4)) da_nil))))))) da_nil)) vAll))))))))
theorem ok_is_table {f : Addr} {fd : FuncData} (F : Fun K "is_table" "is_table" s_is_table f fd) (hm : mg "is_table" = some (.ref f)) (B : Bi mg) (hw : w = TabC.w) (XT : ETx K mg CH [x0]) (C_is_table_of : Cal P w K mg base (RXP [x0]) "is_table_of" 3 (List.replicate 2 false) m_is_table_of) (C_look_house : Cal P w K mg base (RXP [x0]) "look_house" 5 (List.replicate 1 false) m_look_house) : Cal P w K mg base (RXP [x0]) "is_table" 6 (List.replicate 2 false) m_is_table := by
  refine ⟨f, fd, ["house", "thing"], fn_ok (k := 5) F sc_is_table rfl rfl fun cdv A outer s H E hr => ?_, hm, F.kp, F.binds fun _ _ _ _ _ _ us hl => match us, hl with | [_, _], _ => rfl⟩
  unfold b_is_table
  exact (dss_cons (ds_drop (ps_expr (de_callC C_look_house hr (by decide) rfl (L2N.takes_of rfl rfl rfl rfl) (da_cons (de_var (pv 0)) da_nil))))
      (dss_one (ds_ret (de_callC C_is_table_of hr (by decide) rfl (L2N.takes_of rfl rfl rfl rfl) (da_cons (de_var (pv 0)) (da_cons (de_var (pv 1)) da_nil))))))
theorem ok__law_odd {f : Addr} {fd : FuncData} (F : Fun K "_law_odd" "_law_odd" s__law_odd f fd) (hm : mg "_law_odd" = some (.ref f)) (B : Bi mg) (hw : w = TabC.w) (XT : ETx K mg CH [x0])  : Cal P w K mg base (RXP [x0]) "_law_odd" 1 (List.replicate 1 false) m__law_odd := by
  refine ⟨f, fd, ["_law_number"], fn_ok (k := 0) F sc__law_odd rfl rfl fun cdv A outer s H E hr => ?_, hm, F.kp, F.binds fun _ _ _ _ _ _ us hl => match us, hl with | [_], _ => rfl⟩
  unfold b__law_odd
  exact (dss_one (ds_ret (de_ixU (room1 hr) (de_fz (de_lst (da_cons (de_ofV (dv_un un_neg vNeg (dv_k pe_int fun _ _ => .int))) (da_cons (de_ofV (dv_op op_pow vPow (dv_k pe_int fun _ _ => .int) (dv_k pe_int fun _ _ => .int))) (da_cons (de_k pe_bl fun _ _ => .bl) (da_cons (de_k pe_bl fun _ _ => .bl) (da_cons (de_k pe_non fun _ _ => .non) (da_cons (de_k pe_str fun _ _ => .str) (da_cons (de_k pe_int fun _ _ => .int) (da_cons (de_k pe_int fun _ _ => .int) (da_cons (de_k pe_int fun _ _ => .int) (da_cons (de_tup (da_cons (de_k pe_int fun _ _ => .int) da_nil)) (da_cons (de_lst (da_cons (de_k pe_int fun _ _ => .int) da_nil)) (da_cons (de_tup da_nil) (da_cons (de_k pe_int fun _ _ => .int) (da_cons (de_k pe_int fun _ _ => .int) (da_cons (de_k pe_int fun _ _ => .int) (da_cons (de_k pe_int fun _ _ => .int) da_nil)))))))))))))))))) (de_ofV (dv_op op_modN vMod (dv_var (pv 0)) (dv_k pe_int fun _ _ => .int))) (fun _ _ => rfl))))
theorem ok__law_spoilt {f : Addr} {fd : FuncData} (F : Fun K "_law_spoilt" "_law_spoilt" s__law_spoilt f fd) (hm : mg "_law_spoilt" = some (.ref f)) (B : Bi mg) (hw : w = TabC.w) (XT : ETx K mg CH [x0]) (C__law_take : Cal P w K mg base (RXP [x0]) "_law_take" 1 (true :: List.replicate 1 false) m__law_take) (C__law_odd : Cal P w K mg base (RXP [x0]) "_law_odd" 1 (List.replicate 1 false) m__law_odd) : Cal P w K mg base (RXP [x0]) "_law_spoilt" 2 [false, true] m__law_spoilt := by
  refine ⟨f, fd, ["_law_table", "_law_bag_here"], fn_ok (k := 1) F sc__law_spoilt rfl rfl fun cdv A outer s H E hr => ?_, hm, F.kp, F.binds fun _ _ _ _ _ _ us hl => match us, hl with | [_, _], _ => rfl⟩
  unfold b__law_spoilt
  exact (dss_cons (ds_set (ps_set (i := 0) sc__law_spoilt.nd rfl (by first | exact Or.inl rfl | exact Or.inr rfl) (de_callBV (pe_callTy call_list_of (by rfl) B.list boot_list (dav_cons (dv_var (pv 0)) dav_nil)) vList)) (by decide))
      (dss_cons (ds_set (ps_set (i := 2) sc__law_spoilt.nd rfl (by first | exact Or.inl rfl | exact Or.inr rfl) (de_callIOC C__law_take hr (by decide) rfl (L2N.takes_of rfl rfl rfl rfl) (pv 1) (da_cons (de_k pe_int fun _ _ => .int) da_nil))) (by decide))
      (dss_cons (ds_set (ps_set (i := 3) sc__law_spoilt.nd rfl (by first | exact Or.inl rfl | exact Or.inr rfl) (de_callIOC C__law_take hr (by decide) rfl (L2N.takes_of rfl rfl rfl rfl) (pv 1) (da_cons (de_ofV (dv_callB (pe_callB call_lenU (by rfl) B.len boot_len (dav_cons (dv_var (pv 0)) dav_nil)) vLen)) da_nil))) (by decide))
      (dss_cons (ds_asg (ps_asg (de_ofV (dv_ixU (room1 hr) (dv_var (pv 0)) (dv_var (pv 3)) (fun _ _ => rfl))) (dg_tup rfl (dgs_cons (dg_name (pg_name (i := 4) sc__law_spoilt.nd rfl (by first | exact Or.inl rfl | exact Or.inr rfl)) (by decide)) (dgs_cons (dg_name (pg_name (i := 5) sc__law_spoilt.nd rfl (by first | exact Or.inl rfl | exact Or.inr rfl)) (by decide)) (dgs_cons (dg_name (pg_name (i := 6) sc__law_spoilt.nd rfl (by first | exact Or.inl rfl | exact Or.inr rfl)) (by decide)) dgs_nil))))))
      (dss_cons (ds_set (ps_set (i := 7) sc__law_spoilt.nd rfl (by first | exact Or.inl rfl | exact Or.inr rfl) (de_callC C__law_odd hr (by decide) rfl (L2N.takes_of rfl rfl rfl rfl) (da_cons (de_callIOC C__law_take hr (by decide) rfl (L2N.takes_of rfl rfl rfl rfl) (pv 1) (da_cons (de_k pe_int fun _ _ => .int) da_nil)) da_nil))) (by decide))
      (dss_cons (ds_set (ps_set (i := 8) sc__law_spoilt.nd rfl (by first | exact Or.inl rfl | exact Or.inr rfl) (de_callIOC C__law_take hr (by decide) rfl (L2N.takes_of rfl rfl rfl rfl) (pv 1) (da_cons (de_ofV (dv_callB (pe_callB call_lenU (by rfl) B.len boot_len (dav_cons (dv_var (pv 4)) dav_nil)) vLen)) da_nil))) (by decide))
      (dss_cons (ds_set (ps_set (i := 9) sc__law_spoilt.nd rfl (by first | exact Or.inl rfl | exact Or.inr rfl) (de_callIOC C__law_take hr (by decide) rfl (L2N.takes_of rfl rfl rfl rfl) (pv 1) (da_cons (de_ofV (dv_callB (pe_callB call_lenU (by rfl) B.len boot_len (dav_cons (dv_var (pv 6)) dav_nil)) vLen)) da_nil))) (by decide))
      (dss_cons (ds_if (dt_cmpV op_ltU vLt (dv_var (pv 2)) (dv_k pe_int fun _ _ => .int) (nomark _))
      (dss_one (ds_setL (ps_asg (de_tup (da_cons (de_var (pv 4)) (da_cons (de_var (pv 5)) (da_cons (de_op op_catA vAddT (de_op op_catA vAddT (de_slice (de_var (pv 6)) do_0 (do_some (de_var (pv 9)))) (de_tup (da_cons (de_ixU (room1 hr) (de_fz (de_lst (da_cons (de_var (pv 7)) (da_cons (de_callIOC C__law_take hr (by decide) rfl (L2N.takes_of rfl rfl rfl rfl) (pv 1) (da_cons (de_ofV (dv_callB (pe_callB call_lenU (by rfl) B.len boot_len (dav_cons (dv_var (pv 0)) dav_nil)) vLen)) da_nil)) da_nil)))) (de_ofV (dv_op op_modN vMod (dv_var (pv 2)) (dv_k pe_int fun _ _ => .int))) (fun _ _ => rfl)) da_nil))) (de_slice (de_var (pv 6)) (do_some (de_ofV (dv_op op_addU vAdd (dv_var (pv 9)) (dv_k pe_int fun _ _ => .int)))) do_0)) da_nil)))) (pg_sub (pv 0) (de_var (pv 3)) set_list))))
      (dss_one (ds_if (dt_cmpV op_ltU vLt (dv_var (pv 2)) (dv_k pe_int fun _ _ => .int) (nomark _))
      (dss_one (ds_setL (ps_asg (de_tup (da_cons (de_op op_catA vAddT (de_op op_catA vAddT (de_slice (de_var (pv 4)) do_0 (do_some (de_var (pv 8)))) (de_tup (da_cons (de_ixU (room1 hr) (de_fz (de_lst (da_cons (de_var (pv 7)) (da_cons (de_callIOC C__law_take hr (by decide) rfl (L2N.takes_of rfl rfl rfl rfl) (pv 1) (da_cons (de_k pe_int fun _ _ => .int) da_nil)) (da_cons (de_k pe_int fun _ _ => .int) da_nil))))) (de_ofV (dv_op op_sub vSub (dv_var (pv 2)) (dv_k pe_int fun _ _ => .int))) (fun _ _ => rfl)) da_nil))) (de_slice (de_var (pv 4)) (do_some (de_ofV (dv_op op_addU vAdd (dv_var (pv 8)) (dv_k pe_int fun _ _ => .int)))) do_0)) (da_cons (de_var (pv 5)) (da_cons (de_var (pv 6)) da_nil)))) (pg_sub (pv 0) (de_var (pv 3)) set_list))))
      (dss_one (ds_if (dt_cmpV (op_eqU (room64 hr)) vEq (dv_var (pv 2)) (dv_k pe_int fun _ _ => .int) (nomark _))
      (dss_one (ds_setL (ps_asg (de_tup (da_cons (de_var (pv 4)) (da_cons (de_var (pv 7)) (da_cons (de_var (pv 6)) da_nil)))) (pg_sub (pv 0) (de_var (pv 3)) set_list))))
      (dss_one (ds_if (dt_cmpV (op_eqU (room64 hr)) vEq (dv_var (pv 2)) (dv_k pe_int fun _ _ => .int) (nomark _))
      (dss_one (ds_setL (ps_asg (de_var (pv 7)) (pg_sub (pv 0) (de_var (pv 3)) set_list))))
      (dss_one (ds_if (dt_cmpV (op_eqU (room64 hr)) vEq (dv_var (pv 2)) (dv_k pe_int fun _ _ => .int) (nomark _))
      (dss_one (ds_append (ps_expr (pe_bm PySem.F.plainAttrs_list PySem.F.slot_list_append PySem.F.type_list_append mt_append (pv 0) (da_cons (de_ofV (dv_ixU (room1 hr) (dv_var (pv 0)) (dv_var (pv 3)) (fun _ _ => rfl))) da_nil)))))
      (dss_one (ds_if (dt_cmpV (op_eqU (room64 hr)) vEq (dv_var (pv 2)) (dv_k pe_int fun _ _ => .int) (nomark _))
      (dss_one (ds_drop (ps_expr (de_popA (pe_bm PySem.F.plainAttrs_list PySem.F.slot_list_pop PySem.F.type_list_pop mt_popAt (pv 0) (da_cons (de_var (pv 3)) da_nil))))))
      (dss_one (ds_if (dt_cmpV (op_eqU (room64 hr)) vEq (dv_var (pv 2)) (dv_k pe_int fun _ _ => .int) (nomark _))
      (dss_one (ds_setL (ps_asg (de_tup (da_cons (de_callB (pe_callTy call_list_of (by rfl) B.list boot_list (da_cons (de_var (pv 4)) da_nil)) vList) (da_cons (de_var (pv 5)) (da_cons (de_var (pv 6)) da_nil)))) (pg_sub (pv 0) (de_var (pv 3)) set_list))))
      (dss_one (ds_if (dt_cmpV (op_eqU (room64 hr)) vEq (dv_var (pv 2)) (dv_k pe_int fun _ _ => .int) (nomark _))
      (dss_one (ds_setL (ps_asg (de_tup (da_cons (de_var (pv 4)) (da_cons (de_var (pv 5)) (da_cons (de_callB (pe_callTy call_list_of (by rfl) B.list boot_list (da_cons (de_var (pv 6)) da_nil)) vList) da_nil)))) (pg_sub (pv 0) (de_var (pv 3)) set_list))))
      (dss_one (ds_if (dt_cmpV (op_eqU (room64 hr)) vEq (dv_var (pv 2)) (dv_k pe_int fun _ _ => .int) (nomark _))
      (dss_one (ds_setL (ps_asg (de_tup (da_cons (de_var (pv 4)) (da_cons (de_not (de_var (pv 5))) (da_cons (de_var (pv 6)) da_nil)))) (pg_sub (pv 0) (de_var (pv 3)) set_list))))
      (dss_one (ds_if (dt_cmpV (op_eqU (room64 hr)) vEq (dv_var (pv 2)) (dv_k pe_int fun _ _ => .int) (nomark _))
      (dss_one (ds_setL (ps_asg (de_lst (da_cons (de_var (pv 4)) (da_cons (de_var (pv 5)) (da_cons (de_var (pv 6)) da_nil)))) (pg_sub (pv 0) (de_var (pv 3)) set_list))))
      (dss_one (ds_set (ps_set (i := 0) sc__law_spoilt.nd rfl (by first | exact Or.inl rfl | exact Or.inr rfl) (de_ixU (room1 hr) (de_fz (de_lst (da_cons (de_callBV (pe_callTy call_tuple_of (by rfl) B.tuple boot_tuple (dav_cons (dv_var (pv 0)) dav_nil)) vTuple) (da_cons (de_k pe_non fun _ _ => .non) (da_cons (de_lst da_nil) (da_cons (de_k pe_str fun _ _ => .str) (da_cons (de_k pe_int fun _ _ => .int) (da_cons (de_lst (da_cons (de_k pe_non fun _ _ => .non) da_nil)) da_nil)))))))) (de_callIOC C__law_take hr (by decide) rfl (L2N.takes_of rfl rfl rfl rfl) (pv 1) (da_cons (de_k pe_int fun _ _ => .int) da_nil)) (fun _ _ => rfl))) (by decide))))))))))))))))))))))
      (dss_one (ds_ret (de_mv (pv 0))))))))))))
theorem ok__law_whole {f : Addr} {fd : FuncData} (F : Fun K "_law_whole" "_law_whole" s__law_whole f fd) (hm : mg "_law_whole" = some (.ref f)) (B : Bi mg) (hw : w = TabC.w) (XT : ETx K mg CH [x0])  : Cal P w K mg base (RXP [x0]) "_law_whole" 1 (List.replicate 1 false) m__law_whole := by
  refine ⟨f, fd, ["_law_thing"], fn_ok (k := 0) F sc__law_whole rfl rfl fun cdv A outer s H E hr => ?_, hm, F.kp, F.binds fun _ _ _ _ _ _ us hl => match us, hl with | [_], _ => rfl⟩
  unfold b__law_whole
  exact (dss_one (ds_ret (de_and (de_ofV (dv_callB (pe_callB call_isi (by rfl) B.isinstance boot_isinstance (dav_cons (dv_var (pv 0)) (dav_cons (dv_k (pe_bltn (v := .ty "int") (by rfl) B.int boot_int rfl) fun _ _ => .gv) dav_nil))) vIsi)) (de_one (de_not (de_ofV (dv_callB (pe_callB call_isi (by rfl) B.isinstance boot_isinstance (dav_cons (dv_var (pv 0)) (dav_cons (dv_k (pe_bltn (v := .ty "bool") (by rfl) B.bool boot_bool rfl) fun _ _ => .gv) dav_nil))) vIsi)))))))
theorem ok__law_is_entry {f : Addr} {fd : FuncData} (F : Fun K "_law_is_entry" "_law_is_entry" s__law_is_entry f fd) (hm : mg "_law_is_entry" = some (.ref f)) (B : Bi mg) (hw : w = TabC.w) (XT : ETx K mg CH [x0]) (C__law_whole : Cal P w K mg base (RXP [x0]) "_law_whole" 1 (List.replicate 1 false) m__law_whole) : Cal P w K mg base (RXP [x0]) "_law_is_entry" 2 (List.replicate 3 false) m__law_is_entry := by
  refine ⟨f, fd, ["_law_house_here", "_law_entry", "_law_many"], fn_ok (k := 1) F sc__law_is_entry rfl rfl fun cdv A outer s H E hr => ?_, hm, F.kp, F.binds fun _ _ _ _ _ _ us hl => match us, hl with | [_, _, _], _ => rfl⟩
  unfold b__law_is_entry
  exact (dss_cons (ds_if (PW.pt (dw_or (dt_not (dt_valV (dv_callB (pe_callB call_isi (by rfl) B.isinstance boot_isinstance (dav_cons (dv_var (pv 1)) (dav_cons (dv_k (pe_bltn (v := .ty "tuple") (by rfl) B.tuple boot_tuple rfl) fun _ _ => .gv) dav_nil))) vIsi))) (dw_or (dt_cmpV (op_neU (room64 hr)) vNe (dv_callB (pe_callB call_lenU (by rfl) B.len boot_len (dav_cons (dv_var (pv 1)) dav_nil)) vLen) (dv_k pe_int fun _ _ => .int) (nomark _)) (dw_or1 (dt_not (dt_valV (dv_callB (pe_callB call_isi (by rfl) B.isinstance boot_isinstance (dav_cons (dv_ixU (room1 hr) (dv_var (pv 1)) (dv_k pe_int fun _ _ => .int) (fun _ _ => rfl)) (dav_cons (dv_k (pe_bltn (v := .ty "bool") (by rfl) B.bool boot_bool rfl) fun _ _ => .gv) dav_nil))) vIsi)))))))
      (dss_one (ds_ret (de_k pe_bl fun _ _ => .bl)))
      dss_nil)
      (dss_cons (ds_if (PW.pt (dw_or (dt_not (dt_valV (dv_callB (pe_callB call_isi (by rfl) B.isinstance boot_isinstance (dav_cons (dv_ixU (room1 hr) (dv_var (pv 1)) (dv_k pe_int fun _ _ => .int) (fun _ _ => rfl)) (dav_cons (dv_k (pe_bltn (v := .ty "tuple") (by rfl) B.tuple boot_tuple rfl) fun _ _ => .gv) dav_nil))) vIsi))) (dw_or1 (dt_not (dt_valV (dv_callB (pe_callB call_isi (by rfl) B.isinstance boot_isinstance (dav_cons (dv_ixU (room1 hr) (dv_var (pv 1)) (dv_k pe_int fun _ _ => .int) (fun _ _ => rfl)) (dav_cons (dv_k (pe_bltn (v := .ty "tuple") (by rfl) B.tuple boot_tuple rfl) fun _ _ => .gv) dav_nil))) vIsi))))))
      (dss_one (ds_ret (de_k pe_bl fun _ _ => .bl)))
      dss_nil)
      (dss_cons (ds_if (PW.pt (dw_or (dt_cmpV (op_neU (room64 hr)) vNe (dv_callB (pe_callB call_lenU (by rfl) B.len boot_len (dav_cons (dv_ixU (room1 hr) (dv_var (pv 1)) (dv_k pe_int fun _ _ => .int) (fun _ _ => rfl)) dav_nil)) vLen) (dv_ixU (room1 hr) (dv_var (pv 0)) (dv_k pe_int fun _ _ => .int) (fun _ _ => rfl)) (nomark _)) (dw_or1 (dt_cmpV (op_neU (room64 hr)) vNe (dv_callB (pe_callB call_lenU (by rfl) B.len boot_len (dav_cons (dv_ixU (room1 hr) (dv_var (pv 1)) (dv_k pe_int fun _ _ => .int) (fun _ _ => rfl)) dav_nil)) vLen) (dv_callB (pe_callB call_lenU (by rfl) B.len boot_len (dav_cons (dv_ixU (room1 hr) (dv_var (pv 0)) (dv_k pe_int fun _ _ => .int) (fun _ _ => rfl)) dav_nil)) vLen) (nomark _)))))
      (dss_one (ds_ret (de_k pe_bl fun _ _ => .bl)))
      dss_nil)
      (dss_cons (ds_if (dt_cmpEV (op_neU (room64 hr)) vNe (de_lc rfl (pe_lc (own := [("_law_number", 3)]) (g := tG _ [0, 1, 2] _) rfl sc__law_is_entry.nd (di_lt (de_ofV (dv_ixU (room1 hr) (dv_var (pv 1)) (dv_k pe_int fun _ _ => .int) (fun _ _ => rfl)))) (blkOk_by (own := [("_law_number", 3)]) (by kernel_rfl)) (fun _ _ _ _ _ => (dg_name (pg_name (i := 3) sc__law_is_entry.nd rfl (by first | exact Or.inl rfl | exact Or.inr rfl)) (by decide))) (fun _ _ _ _ _ => (dts_one (PW.pt (dw_or (dt_not (dt_val (de_callC C__law_whole hr (by decide) rfl takesN0 (da_cons (de_var (pv 3)) da_nil)))) (dw_or1 (dt_cmpV op_ltU vLt (dv_var (pv 3)) (dv_k pe_int fun _ _ => .int) (nomark _))))))) (fun _ _ _ _ _ => (de_var (pv 3))))) (dv_lst dav_nil) (nomark _))
      (dss_one (ds_ret (de_k pe_bl fun _ _ => .bl)))
      dss_nil)
      (dss_one (ds_ret (de_cmpEV (op_eqU (room64 hr)) vEq (de_lc rfl (pe_lc (own := [("_law_number", 3)]) (g := tG _ [0, 1, 2] _) rfl sc__law_is_entry.nd (di_lt (de_ofV (dv_ixU (room1 hr) (dv_var (pv 1)) (dv_k pe_int fun _ _ => .int) (fun _ _ => rfl)))) (blkOk_by (own := [("_law_number", 3)]) (by kernel_rfl)) (fun _ _ _ _ _ => (dg_name (pg_name (i := 3) sc__law_is_entry.nd rfl (by first | exact Or.inl rfl | exact Or.inr rfl)) (by decide))) (fun _ _ _ _ _ => (dts_one (PW.pt (dw_or (dt_not (dt_val (de_callC C__law_whole hr (by decide) rfl takesN0 (da_cons (de_var (pv 3)) da_nil)))) (dw_or1 (dt_not (dt_chain op_leU vLe op_ltU vLt (de_k pe_int fun _ _ => .int) (de_var (pv 3)) (de_var (pv 2))))))))) (fun _ _ _ _ _ => (de_var (pv 3))))) (dv_lst dav_nil) (nomark _))))))))
theorem ok__law_is_table {f : Addr} {fd : FuncData} (F : Fun K "_law_is_table" "_law_is_table" s__law_is_table f fd) (hm : mg "_law_is_table" = some (.ref f)) (B : Bi mg) (hw : w = TabC.w) (XT : ETx K mg CH [x0]) (C__law_is_entry : Cal P w K mg base (RXP [x0]) "_law_is_entry" 2 (List.replicate 3 false) m__law_is_entry) : Cal P w K mg base (RXP [x0]) "_law_is_table" 3 (List.replicate 2 false) m__law_is_table := by
  refine ⟨f, fd, ["_law_house_here", "_law_table"], fn_ok (k := 2) F sc__law_is_table rfl rfl fun cdv A outer s H E hr => ?_, hm, F.kp, F.binds fun _ _ _ _ _ _ us hl => match us, hl with | [_, _], _ => rfl⟩
  unfold b__law_is_table
  exact (dss_cons (ds_if (PW.pt (dw_or (dt_not (dt_valV (dv_callB (pe_callB call_isi (by rfl) B.isinstance boot_isinstance (dav_cons (dv_var (pv 1)) (dav_cons (dv_k (pe_bltn (v := .ty "list") (by rfl) B.list PyProof.Rows.boot_list rfl) fun _ _ => .gv) dav_nil))) vIsi))) (dw_or1 (dt_not (dt_chain op_ltU vLt op_ltU vLt (de_k pe_int fun _ _ => .int) (de_ofV (dv_callB (pe_callB call_lenU (by rfl) B.len boot_len (dav_cons (dv_var (pv 1)) dav_nil)) vLen)) (de_k pe_int fun _ _ => .int))))))
      (dss_one (ds_ret (de_k pe_bl fun _ _ => .bl)))
      dss_nil)
      (dss_cons (ds_if (dt_cmpEV (op_neU (room64 hr)) vNe (de_lc rfl (pe_lc (own := [("_law_entry", 12)]) (g := tG _ [0, 1, 2, 3, 4, 5, 6, 7, 8, 9, 10, 11, 13] _) rfl sc__law_is_table.nd (di_lt (de_var (pv 1))) (blkOk_by (own := [("_law_entry", 12)]) (by kernel_rfl)) (fun _ _ _ _ _ => (dg_name (pg_name (i := 12) sc__law_is_table.nd rfl (by first | exact Or.inl rfl | exact Or.inr rfl)) (by decide))) (fun _ _ _ _ _ => (dts_one (dt_not (dt_val (de_callC C__law_is_entry hr (by decide) rfl takesN0 (da_cons (de_var (pv 0)) (da_cons (de_var (pv 12)) (da_cons (de_ofV (dv_callB (pe_callB call_lenU (by rfl) B.len boot_len (dav_cons (dv_var (pv 1)) dav_nil)) vLen)) da_nil)))))))) (fun _ _ _ _ _ => (de_var (pv 12))))) (dv_lst dav_nil) (nomark _))
      (dss_one (ds_ret (de_k pe_bl fun _ _ => .bl)))
      dss_nil)
      (dss_cons (ds_if (dt_cmpEV op_ltU vLt (de_lenSetB rfl (room64 hr) (by rfl) B.len (by rfl) B.set (de_lc rfl (pe_lc (own := [("_law_entry", 12)]) (g := tG _ [0, 1, 2, 3, 4, 5, 6, 7, 8, 9, 10, 11, 13] _) rfl sc__law_is_table.nd (di_lt (de_var (pv 1))) (blkOk_by (own := [("_law_entry", 12)]) (by kernel_rfl)) (fun _ _ _ _ _ => (dg_name (pg_name (i := 12) sc__law_is_table.nd rfl (by first | exact Or.inl rfl | exact Or.inr rfl)) (by decide))) (fun _ _ _ _ _ => dts_0) (fun _ _ _ _ _ => (de_ofV (dv_ixU (room1 hr) (dv_var (pv 12)) (dv_k pe_int fun _ _ => .int) (fun _ _ => rfl))))))) (dv_callB (pe_callB call_lenU (by rfl) B.len boot_len (dav_cons (dv_var (pv 1)) dav_nil)) vLen) (nomark _))
      (dss_one (ds_ret (de_k pe_bl fun _ _ => .bl)))
      dss_nil)
      (dss_cons (ds_for (passes_of rfl) rfl (di_enum (by rfl) B.enumerate (da_cons (de_ofV (dv_ixU (room1 hr) (dv_var (pv 0)) (dv_k pe_int fun _ _ => .int) (fun _ _ => rfl))) da_nil)) (dg_tup rfl (dgs_cons (dg_name (pg_name (i := 2) sc__law_is_table.nd rfl (by first | exact Or.inl rfl | exact Or.inr rfl)) (by decide)) (dgs_cons (dg_tup rfl (dgs_cons (dg_name (pg_name (i := 3) sc__law_is_table.nd rfl (by first | exact Or.inl rfl | exact Or.inr rfl)) (by decide)) (dgs_cons (dg_name (pg_name (i := 4) sc__law_is_table.nd rfl (by first | exact Or.inl rfl | exact Or.inr rfl)) (by decide)) dgs_nil))) dgs_nil)))
      (dss_cons (ds_set (ps_set (i := 5) sc__law_is_table.nd rfl (by first | exact Or.inl rfl | exact Or.inr rfl) de_dnewT) (by decide))
      (dss_one (ds_for (passes_of rfl) rfl (di_lt (de_var (pv 1))) (dg_tup rfl (dgs_cons (dg_name (pg_name (i := 6) sc__law_is_table.nd rfl (by first | exact Or.inl rfl | exact Or.inr rfl)) (by decide)) (dgs_cons (dg_name (pg_name (i := 7) sc__law_is_table.nd rfl (by first | exact Or.inl rfl | exact Or.inr rfl)) (by decide)) (dgs_cons (dg_name (pg_name (i := 8) sc__law_is_table.nd rfl (by first | exact Or.inl rfl | exact Or.inr rfl)) (by decide)) dgs_nil))))
      (dss_cons (ds_set (ps_set (i := 9) sc__law_is_table.nd rfl (by first | exact Or.inl rfl | exact Or.inr rfl) (de_ofV (dv_ixU (room1 hr) (dv_ixU (room1 hr) (dv_var (pv 1)) (dv_ixU (room1 hr) (dv_var (pv 8)) (dv_var (pv 2)) (fun _ _ => rfl)) (fun _ _ => rfl)) (dv_k pe_int fun _ _ => .int) (fun _ _ => rfl)))) (by decide))
      (dss_cons (ds_if (dt_cmpEV (op_neU (room64 hr)) vNe (de_lc rfl (pe_lc (own := [("_law_hand", 13)]) (g := tG _ [0, 1, 2, 3, 4, 5, 6, 7, 8, 9, 10, 11, 12] _) rfl sc__law_is_table.nd (di_range1 (by rfl) B.range (da_cons (de_ofV (dv_ixU (room1 hr) (dv_var (pv 0)) (dv_k pe_int fun _ _ => .int) (fun _ _ => rfl))) da_nil)) (blkOk_by (own := [("_law_hand", 13)]) (by kernel_rfl)) (fun _ _ _ _ _ => (dg_name (pg_name (i := 13) sc__law_is_table.nd rfl (by first | exact Or.inl rfl | exact Or.inr rfl)) (by decide))) (fun _ _ _ _ _ => (dts_one (PW.pt (dw_and (dt_cmpV (op_ninU (room65 hr)) vNin (dv_var (pv 13)) (dv_var (pv 4)) rfl) (dw_and1 (dt_cmpV (op_neU (room64 hr)) vNe (dv_ixU (room1 hr) (dv_var (pv 9)) (dv_var (pv 13)) (fun _ _ => rfl)) (dv_ixU (room1 hr) (dv_var (pv 6)) (dv_var (pv 13)) (fun _ _ => rfl)) (nomark _))))))) (fun _ _ _ _ _ => (de_var (pv 13))))) (dv_lst dav_nil) (nomark _))
      (dss_one (ds_ret (de_k pe_bl fun _ _ => .bl)))
      dss_nil)
      (dss_cons (ds_set (ps_set (i := 10) sc__law_is_table.nd rfl (by first | exact Or.inl rfl | exact Or.inr rfl) (de_callB (pe_callTy call_tuple_of (by rfl) B.tuple boot_tuple (da_cons (de_lc rfl (pe_lc (own := [("_law_hand", 13)]) (g := tG _ [0, 1, 2, 3, 4, 5, 6, 7, 8, 9, 10, 11, 12] _) rfl sc__law_is_table.nd (di_list (de_var (pv 4))) (blkOk_by (own := [("_law_hand", 13)]) (by kernel_rfl)) (fun _ _ _ _ _ => (dg_name (pg_name (i := 13) sc__law_is_table.nd rfl (by first | exact Or.inl rfl | exact Or.inr rfl)) (by decide))) (fun _ _ _ _ _ => dts_0) (fun _ _ _ _ _ => (de_ofV (dv_ixU (room1 hr) (dv_var (pv 6)) (dv_var (pv 13)) (fun _ _ => rfl)))))) da_nil)) vTuple)) (by decide))
      (dss_cons (ds_set (ps_set (i := 11) sc__law_is_table.nd rfl (by first | exact Or.inl rfl | exact Or.inr rfl) (de_callB (pe_callTy call_tuple_of (by rfl) B.tuple boot_tuple (da_cons (de_lc rfl (pe_lc (own := [("_law_hand", 13)]) (g := tG _ [0, 1, 2, 3, 4, 5, 6, 7, 8, 9, 10, 11, 12] _) rfl sc__law_is_table.nd (di_list (de_var (pv 4))) (blkOk_by (own := [("_law_hand", 13)]) (by kernel_rfl)) (fun _ _ _ _ _ => (dg_name (pg_name (i := 13) sc__law_is_table.nd rfl (by first | exact Or.inl rfl | exact Or.inr rfl)) (by decide))) (fun _ _ _ _ _ => dts_0) (fun _ _ _ _ _ => (de_ofV (dv_ixU (room1 hr) (dv_var (pv 9)) (dv_var (pv 13)) (fun _ _ => rfl)))))) da_nil)) vTuple)) (by decide))
      (dss_cons (ds_if (dt_cmpEV (op_neU (room64 hr)) vNe (de_dget (room1 hr) (pv 5) (de_var (pv 10)) (de_var (pv 11)) ⟨rfl, rfl, rfl, rfl⟩) (dv_var (pv 11)) (nomark _))
      (dss_one (ds_ret (de_k pe_bl fun _ _ => .bl)))
      dss_nil)
      (dss_one (ds_putD (ps_asg (de_var (pv 11)) (pg_sub (pv 5) (de_var (pv 10)) (set_dict (room1 hr)))))))))))))))
      (dss_one (ds_ret (de_k pe_bl fun _ _ => .bl)))))))
theorem ok__law_refused {f : Addr} {fd : FuncData} (F : Fun K "_law_refused" "_law_refused" s__law_refused f fd) (hm : mg "_law_refused" = some (.ref f)) (B : Bi mg) (hw : w = TabC.w) (XT : ETx K mg CH [x0]) (C_is_table : Cal P w K mg base (RXP [x0]) "is_table" 6 (List.replicate 2 false) m_is_table) : Cal P w K mg base (RXP [x0]) "_law_refused" 7 (List.replicate 0 false) m__law_refused := by
  refine ⟨f, fd, [], fn_ok (k := 6) F sc__law_refused rfl rfl fun cdv A outer s H E hr => ?_, hm, F.kp, F.binds fun _ _ _ _ _ _ us hl => match us, hl with | [], _ => rfl⟩
  unfold b__law_refused
  exact (dss_cons (ds_try1 rfl rfl sc__law_refused.nd rfl rfl ⟨by rfl, by decide, .inl (XT.tab.g 0 _ _ rfl rfl)⟩ (L2N.takes_of rfl rfl rfl rfl) XT.tab (fun W1 pn1 xe1 tkT po =>
      (dss_one (ds_drop (ps_expr (de_callC C_is_table hr (by decide) rfl tkT (da_cons (de_tup (da_cons (de_k pe_int fun _ _ => .int) (da_cons (de_lst (da_cons (de_tup (da_cons (de_k pe_str fun _ _ => .str) (da_cons (de_lst (da_cons (de_k pe_int fun _ _ => .int) da_nil)) da_nil))) da_nil)) da_nil))) (da_cons (de_lst da_nil) da_nil))))))) (fun a oe cls d pn hz hv => (su_isV XT.tab hz hv (by rfl) B.isinstance (pv 0) (pe_bltn (v := .ty "ValueError") (by rfl) B.ValueError PyProof.Rows.Boot.ValueError rfl))))
      (dss_one (ds_ret (de_k pe_bl fun _ _ => .bl))))
theorem ok_law_fn {f : Addr} {fd : FuncData} (F : Fun K "law" "law" s_law f fd) (B : Bi mg) (hw : w = TabC.w) (XT : ETx K mg CH [x0]) (C__law_refused : Cal P w K mg base (RXP [x0]) "_law_refused" 7 (List.replicate 0 false) m__law_refused) (C_is_table : Cal P w K mg base (RXP [x0]) "is_table" 6 (List.replicate 2 false) m_is_table) (C__law_is_table : Cal P w K mg base (RXP [x0]) "_law_is_table" 3 (List.replicate 2 false) m__law_is_table) (C__law_spoilt : Cal P w K mg base (RXP [x0]) "_law_spoilt" 2 [false, true] m__law_spoilt) (C__law_bag : Cal P w K mg base (RXP [x0]) "_law_bag" 1 (List.replicate 1 false) m__law_bag) (C__law_cell : Cal P w K mg base (RXP [x0]) "_law_cell" 1 (List.replicate 2 false) m__law_cell) (C__law_drawn_table : Cal P w K mg base (RXP [x0]) "_law_drawn_table" 2 (true :: List.replicate 1 false) m__law_drawn_table) (C__law_house : Cal P w K mg base (RXP [x0]) "_law_house" 2 (true :: List.replicate 0 false) m__law_house) : FnOk P w K mg base (L2N.CX P w) 8 f fd ["_law_script"] (spD K (RXP [x0]) (List.replicate 1 false) m_law) := by
  refine fn_ok (k := 7) F sc_law rfl rfl fun cdv A outer s H E hr => ?_
  unfold b_law
  exact (dss_cons (ds_set (ps_set (i := 1) sc_law.nd rfl (by first | exact Or.inl rfl | exact Or.inr rfl) (de_callFC C__law_house hr (by decide) rfl (L2N.takes_of rfl rfl rfl rfl) (da_cons (de_callC C__law_bag hr (by decide) rfl (L2N.takes_of rfl rfl rfl rfl) (da_cons (de_callC C__law_cell hr (by decide) rfl (L2N.takes_of rfl rfl rfl rfl) (da_cons (de_var (pv 0)) (da_cons (de_k pe_int fun _ _ => .int) da_nil))) da_nil)) da_nil))) (by decide))
      (dss_cons (ds_set (ps_set (i := 2) sc_law.nd rfl (by first | exact Or.inl rfl | exact Or.inr rfl) (de_callFC C__law_drawn_table hr (by decide) rfl (L2N.takes_of rfl rfl rfl rfl) (da_cons (de_callC C__law_bag hr (by decide) rfl (L2N.takes_of rfl rfl rfl rfl) (da_cons (de_callC C__law_cell hr (by decide) rfl (L2N.takes_of rfl rfl rfl rfl) (da_cons (de_var (pv 0)) (da_cons (de_k pe_int fun _ _ => .int) da_nil))) da_nil)) (da_cons (de_var (pv 1)) da_nil)))) (by decide))
      (dss_cons (ds_if (dt_cmpEV op_isnU vIsn (de_callC C_is_table hr (by decide) rfl (L2N.takes_of rfl rfl rfl rfl) (da_cons (de_var (pv 1)) (da_cons (de_var (pv 2)) da_nil))) (dv_k pe_bl fun _ _ => .bl) (nomark _))
      (dss_one (ds_ret (de_k pe_bl fun _ _ => .bl)))
      dss_nil)
      (dss_cons (ds_for (passes_of rfl) rfl (di_range1 (by rfl) B.range (da_cons (de_ofV (dv_callB (pe_callB (call_max2 rfl) (by rfl) B.max boot_max (dav_cons (dv_k pe_int fun _ _ => .int) (dav_cons (dv_callB (pe_callB (call_min2 rfl) (by rfl) B.min boot_min (dav_cons (dv_k pe_int fun _ _ => .int) (dav_cons (dv_callB (pe_callB call_lenU (by rfl) B.len boot_len (dav_cons (dv_var (pv 0)) dav_nil)) vLen) dav_nil))) vMin2) dav_nil))) vMax2)) da_nil)) (dg_name (pg_name (i := 3) sc_law.nd rfl (by first | exact Or.inl rfl | exact Or.inr rfl)) (by decide))
      (dss_cons (ds_set (ps_set (i := 4) sc_law.nd rfl (by first | exact Or.inl rfl | exact Or.inr rfl) (de_callGC C__law_spoilt hr (by decide) rfl (L2N.takes_of rfl rfl rfl rfl) (da_cons (de_var (pv 2)) (da_cons (de_callC C__law_bag hr (by decide) rfl (L2N.takes_of rfl rfl rfl rfl) (da_cons (de_opEV op_addU vAdd (de_callC C__law_cell hr (by decide) rfl (L2N.takes_of rfl rfl rfl rfl) (da_cons (de_var (pv 0)) (da_cons (de_ofV (dv_op op_addU vAdd (dv_var (pv 3)) (dv_k pe_int fun _ _ => .int))) da_nil))) (dv_op op_mul vMul (dv_k pe_int fun _ _ => .int) (dv_var (pv 3)))) da_nil)) da_nil)))) (by decide))
      (dss_cons (ds_set (ps_set (i := 5) sc_law.nd rfl (by first | exact Or.inl rfl | exact Or.inr rfl) (de_callC C_is_table hr (by decide) rfl (L2N.takes_of rfl rfl rfl rfl) (da_cons (de_var (pv 1)) (da_cons (de_var (pv 4)) da_nil)))) (by decide))
      (dss_one (ds_if (PW.pt (dw_or (dt_not (dt_valV (dv_callB (pe_callB call_isi (by rfl) B.isinstance boot_isinstance (dav_cons (dv_var (pv 5)) (dav_cons (dv_k (pe_bltn (v := .ty "bool") (by rfl) B.bool boot_bool rfl) fun _ _ => .gv) dav_nil))) vIsi))) (dw_or1 (dt_cmpL (op_neU (room64 hr)) vNe (pv 5) (de_callC C__law_is_table hr (by decide) rfl (L2N.takes_of rfl rfl rfl rfl) (da_cons (de_var (pv 1)) (da_cons (de_var (pv 4)) da_nil))) (nomark _)))))
      (dss_one (ds_ret (de_k pe_bl fun _ _ => .bl)))
      dss_nil)))))
      (dss_cons (ds_set (ps_set (i := 6) sc_law.nd rfl (by first | exact Or.inl rfl | exact Or.inr rfl) (de_lst da_nil)) (by decide))
      (dss_cons (ds_for (passes_of rfl) rfl (di_range1 (by rfl) B.range (da_cons (de_k pe_int fun _ _ => .int) da_nil)) (dg_name (pg_name (i := 3) sc_law.nd rfl (by first | exact Or.inl rfl | exact Or.inr rfl)) (by decide))
      (dss_cons (ds_set (ps_set (i := 7) sc_law.nd rfl (by first | exact Or.inl rfl | exact Or.inr rfl) (de_callB (pe_callTy call_tuple_of (by rfl) B.tuple boot_tuple (da_cons (de_lc rfl (pe_lc (own := [("_law_letter", 8)]) (g := tG _ [0, 1, 2, 3, 4, 5, 6, 7, 9] _) rfl sc_law.nd (di_list (de_ofV (dv_ixU (room1 hr) (dv_var (pv 1)) (dv_k pe_int fun _ _ => .int) (fun _ _ => rfl)))) (blkOk_by (own := [("_law_letter", 8)]) (by kernel_rfl)) (fun _ _ _ _ _ => (dg_name (pg_name (i := 8) sc_law.nd rfl (by first | exact Or.inl rfl | exact Or.inr rfl)) (by decide))) (fun _ _ _ _ _ => dts_0) (fun _ _ _ _ _ => (de_var (pv 3))))) da_nil)) vTuple)) (by decide))
      (dss_one (ds_append (ps_expr (pe_bm PySem.F.plainAttrs_list PySem.F.slot_list_append PySem.F.type_list_append mt_append (pv 6) (da_cons (de_tup (da_cons (de_callB (pe_callTy call_tuple_of (by rfl) B.tuple boot_tuple (da_cons (de_op op_addU vAdd (de_lst (da_cons (de_var (pv 3)) da_nil)) (de_lc rfl (pe_lc (own := [("_law_hand", 9)]) (g := tG _ [0, 1, 2, 3, 4, 5, 6, 7, 8] _) rfl sc_law.nd (di_range1 (by rfl) B.range (da_cons (de_ofV (dv_op op_sub vSub (dv_ixU (room1 hr) (dv_var (pv 1)) (dv_k pe_int fun _ _ => .int) (fun _ _ => rfl)) (dv_k pe_int fun _ _ => .int))) da_nil)) (blkOk_by (own := [("_law_hand", 9)]) (by kernel_rfl)) (fun _ _ _ _ _ => (dg_name (pg_name (i := 9) sc_law.nd rfl (by first | exact Or.inl rfl | exact Or.inr rfl)) (by decide))) (fun _ _ _ _ _ => dts_0) (fun _ _ _ _ _ => (de_k pe_int fun _ _ => .int))))) da_nil)) vTuple) (da_cons (de_ofV (dv_cmp (op_eqU (room64 hr)) vEq (dv_op op_modN vMod (dv_var (pv 3)) (dv_k pe_int fun _ _ => .int)) (dv_k pe_int fun _ _ => .int) (nomark _))) (da_cons (de_var (pv 7)) da_nil)))) da_nil)))))))
      (dss_cons (ds_if (PW.pt (dw_or (dt_cmpEV op_isnU vIsn (de_callC C_is_table hr (by decide) rfl (L2N.takes_of rfl rfl rfl rfl) (da_cons (de_var (pv 1)) (da_cons (de_slice (de_var (pv 6)) do_0 (do_some (de_k pe_int fun _ _ => .int))) da_nil))) (dv_k pe_bl fun _ _ => .bl) (nomark _)) (dw_or1 (dt_cmpV op_isnU vIsn (dv_callC C_is_table hr (by decide) rfl (dav_cons (dv_var (pv 1)) (dav_cons (dv_var (pv 6)) dav_nil))) (dv_k pe_bl fun _ _ => .bl) (nomark _)))))
      (dss_one (ds_ret (de_k pe_bl fun _ _ => .bl)))
      dss_nil)
      (dss_one (ds_ret (de_call0C C__law_refused hr (by decide) rfl (L2N.takes_of rfl rfl rfl rfl)))))))))))
end
set_option maxHeartbeats 4000000 in
theorem all_mk {P : Program} {w : World} {K : PySem.W.Frag} {h : Heap} {mg : Str → Option Value} {fa f0 f1 f2 f3 f4 f5 f6 f7 f8 f9 f10 f11 f12 f13 f14 f15 f16 f17 f18 f19 f20 f21 : Addr} (X : K.In h) (G : h.Ns mainGlobals mg) (hfa : mg "law" = some (.ref fa)) {od0 od1 od2 od3 od4 od5 od6 od7 od8 od9 od10 od11 od12 od13 od14 od15 od16 od17 od18 od19 od20 od21 an0 an1 an2 an3 an4 an5 an6 an7 an8 an9 an10 an11 an12 an13 an14 an15 an16 an17 an18 an19 an20 an21 : Option Addr} {sl0 sl1 sl2 sl3 sl4 sl5 sl6 sl7 sl8 sl9 sl10 sl11 sl12 sl13 sl14 sl15 sl16 sl17 sl18 sl19 sl20 sl21 : Array (Option Value)} {oc0 oc1 oc2 oc3 oc4 oc5 oc6 oc7 oc8 oc9 oc10 oc11 oc12 oc13 oc14 oc15 oc16 oc17 oc18 oc19 oc20 oc21 kV0 kV1 kV2 kV3 kV4 kV5 kV6 kV7 kV8 kV9 kV10 kV11 kV12 kV13 kV14 kV15 kV16 kV17 kV18 kV19 kV20 kV21 dc0 dc1 dc2 dc3 dc4 dc5 dc6 dc7 dc8 dc9 dc10 dc11 dc12 dc13 dc14 dc15 dc16 dc17 dc18 dc19 dc20 dc21 pm0 pm1 pm2 pm3 pm4 pm5 pm6 pm7 pm8 pm9 pm10 pm11 pm12 pm13 pm14 pm15 pm16 pm17 pm18 pm19 pm20 pm21 cd0 cd1 cd2 cd3 cd4 cd5 cd6 cd7 cd8 cd9 cd10 cd11 cd12 cd13 cd14 cd15 cd16 cd17 cd18 cd19 cd20 cd21 ct0 ct1 ct2 ct3 ct4 ct5 ct6 ct7 ct8 ct9 ct10 ct11 ct12 ct13 ct14 ct15 ct16 ct17 ct18 ct19 ct20 ct21 : Value} {CH x0 : Addr} {yH y0 : ClassData} {t_LETTERS t_FEWEST_HANDS t_MOST_HANDS t_MOST_LETTERS t_MOST : Tok} 
    (a0 : PySem.W.nsIn K mainGlobals "_law_take" = some (some (.ref f0))) (l0 : K.lookup f0 = some ⟨oc0, od0, .func (PySem.W.fnOf "_law_take" "_law_take" (defArgs s__law_take) (defBody s__law_take) (defScope s__law_take) .none kV0 dc0 pm0 an0 cd0 ct0), sl0⟩) (c0 : PySem.W.codeIn K cd0 "_law_take" = true) (k0 : PySem.W.keepIn K (.ref f0) = true)
    (a1 : PySem.W.nsIn K mainGlobals "_law_house" = some (some (.ref f1))) (l1 : K.lookup f1 = some ⟨oc1, od1, .func (PySem.W.fnOf "_law_house" "_law_house" (defArgs s__law_house) (defBody s__law_house) (defScope s__law_house) .none kV1 dc1 pm1 an1 cd1 ct1), sl1⟩) (c1 : PySem.W.codeIn K cd1 "_law_house" = true) (k1 : PySem.W.keepIn K (.ref f1) = true)
    (a2 : PySem.W.nsIn K mainGlobals "_law_bag" = some (some (.ref f2))) (l2 : K.lookup f2 = some ⟨oc2, od2, .func (PySem.W.fnOf "_law_bag" "_law_bag" (defArgs s__law_bag) (defBody s__law_bag) (defScope s__law_bag) .none kV2 dc2 pm2 an2 cd2 ct2), sl2⟩) (c2 : PySem.W.codeIn K cd2 "_law_bag" = true) (k2 : PySem.W.keepIn K (.ref f2) = true)
    (a3 : PySem.W.nsIn K mainGlobals "_law_cell" = some (some (.ref f3))) (l3 : K.lookup f3 = some ⟨oc3, od3, .func (PySem.W.fnOf "_law_cell" "_law_cell" (defArgs s__law_cell) (defBody s__law_cell) (defScope s__law_cell) .none kV3 dc3 pm3 an3 cd3 ct3), sl3⟩) (c3 : PySem.W.codeIn K cd3 "_law_cell" = true) (k3 : PySem.W.keepIn K (.ref f3) = true)
    (a4 : PySem.W.nsIn K mainGlobals "_law_drawn_table" = some (some (.ref f4))) (l4 : K.lookup f4 = some ⟨oc4, od4, .func (PySem.W.fnOf "_law_drawn_table" "_law_drawn_table" (defArgs s__law_drawn_table) (defBody s__law_drawn_table) (defScope s__law_drawn_table) .none kV4 dc4 pm4 an4 cd4 ct4), sl4⟩) (c4 : PySem.W.codeIn K cd4 "_law_drawn_table" = true) (k4 : PySem.W.keepIn K (.ref f4) = true)
    (a5 : PySem.W.nsIn K mainGlobals "is_whole" = some (some (.ref f5))) (l5 : K.lookup f5 = some ⟨oc5, od5, .func (PySem.W.fnOf "is_whole" "is_whole" (defArgs s_is_whole) (defBody s_is_whole) (defScope s_is_whole) .none kV5 dc5 pm5 an5 cd5 ct5), sl5⟩) (c5 : PySem.W.codeIn K cd5 "is_whole" = true) (k5 : PySem.W.keepIn K (.ref f5) = true)
    (a6 : PySem.W.nsIn K mainGlobals "is_sign" = some (some (.ref f6))) (l6 : K.lookup f6 = some ⟨oc6, od6, .func (PySem.W.fnOf "is_sign" "is_sign" (defArgs s_is_sign) (defBody s_is_sign) (defScope s_is_sign) .none kV6 dc6 pm6 an6 cd6 ct6), sl6⟩) (c6 : PySem.W.codeIn K cd6 "is_sign" = true) (k6 : PySem.W.keepIn K (.ref f6) = true)
    (a7 : PySem.W.nsIn K mainGlobals "is_rising" = some (some (.ref f7))) (l7 : K.lookup f7 = some ⟨oc7, od7, .func (PySem.W.fnOf "is_rising" "is_rising" (defArgs s_is_rising) (defBody s_is_rising) (defScope s_is_rising) .none kV7 dc7 pm7 an7 cd7 ct7), sl7⟩) (c7 : PySem.W.codeIn K cd7 "is_rising" = true) (k7 : PySem.W.keepIn K (.ref f7) = true)
    (a8 : PySem.W.nsIn K mainGlobals "is_entry_houses" = some (some (.ref f8))) (l8 : K.lookup f8 = some ⟨oc8, od8, .func (PySem.W.fnOf "is_entry" "is_entry" (defArgs s_is_entry) (defBody s_is_entry) (defScope s_is_entry) .none kV8 dc8 pm8 an8 cd8 ct8), sl8⟩) (c8 : PySem.W.codeIn K cd8 "is_entry" = true) (k8 : PySem.W.keepIn K (.ref f8) = true)
    (a9 : PySem.W.nsIn K mainGlobals "is_house" = some (some (.ref f9))) (l9 : K.lookup f9 = some ⟨oc9, od9, .func (PySem.W.fnOf "is_house" "is_house" (defArgs s_is_house) (defBody s_is_house) (defScope s_is_house) .none kV9 dc9 pm9 an9 cd9 ct9), sl9⟩) (c9 : PySem.W.codeIn K cd9 "is_house" = true) (k9 : PySem.W.keepIn K (.ref f9) = true)
    (a10 : PySem.W.nsIn K mainGlobals "look_house" = some (some (.ref f10))) (l10 : K.lookup f10 = some ⟨oc10, od10, .func (PySem.W.fnOf "look_house" "look_house" (defArgs s_look_house) (defBody s_look_house) (defScope s_look_house) .none kV10 dc10 pm10 an10 cd10 ct10), sl10⟩) (c10 : PySem.W.codeIn K cd10 "look_house" = true) (k10 : PySem.W.keepIn K (.ref f10) = true)
    (a11 : PySem.W.nsIn K mainGlobals "is_entry_tables" = some (some (.ref f11))) (l11 : K.lookup f11 = some ⟨oc11, od11, .func (PySem.W.fnOf "is_entry" "is_entry" (defArgs s_is_entry_tables) (defBody s_is_entry_tables) (defScope s_is_entry_tables) .none kV11 dc11 pm11 an11 cd11 ct11), sl11⟩) (c11 : PySem.W.codeIn K cd11 "is_entry" = true) (k11 : PySem.W.keepIn K (.ref f11) = true)
    (a12 : PySem.W.nsIn K mainGlobals "is_done_apart" = some (some (.ref f12))) (l12 : K.lookup f12 = some ⟨oc12, od12, .func (PySem.W.fnOf "is_done_apart" "is_done_apart" (defArgs s_is_done_apart) (defBody s_is_done_apart) (defScope s_is_done_apart) .none kV12 dc12 pm12 an12 cd12 ct12), sl12⟩) (c12 : PySem.W.codeIn K cd12 "is_done_apart" = true) (k12 : PySem.W.keepIn K (.ref f12) = true)
    (a13 : PySem.W.nsIn K mainGlobals "is_table_of" = some (some (.ref f13))) (l13 : K.lookup f13 = some ⟨oc13, od13, .func (PySem.W.fnOf "is_table_of" "is_table_of" (defArgs s_is_table_of) (defBody s_is_table_of) (defScope s_is_table_of) .none kV13 dc13 pm13 an13 cd13 ct13), sl13⟩) (c13 : PySem.W.codeIn K cd13 "is_table_of" = true) (k13 : PySem.W.keepIn K (.ref f13) = true)
    (a14 : PySem.W.nsIn K mainGlobals "is_table" = some (some (.ref f14))) (l14 : K.lookup f14 = some ⟨oc14, od14, .func (PySem.W.fnOf "is_table" "is_table" (defArgs s_is_table) (defBody s_is_table) (defScope s_is_table) .none kV14 dc14 pm14 an14 cd14 ct14), sl14⟩) (c14 : PySem.W.codeIn K cd14 "is_table" = true) (k14 : PySem.W.keepIn K (.ref f14) = true)
    (a15 : PySem.W.nsIn K mainGlobals "_law_odd" = some (some (.ref f15))) (l15 : K.lookup f15 = some ⟨oc15, od15, .func (PySem.W.fnOf "_law_odd" "_law_odd" (defArgs s__law_odd) (defBody s__law_odd) (defScope s__law_odd) .none kV15 dc15 pm15 an15 cd15 ct15), sl15⟩) (c15 : PySem.W.codeIn K cd15 "_law_odd" = true) (k15 : PySem.W.keepIn K (.ref f15) = true)
    (a16 : PySem.W.nsIn K mainGlobals "_law_spoilt" = some (some (.ref f16))) (l16 : K.lookup f16 = some ⟨oc16, od16, .func (PySem.W.fnOf "_law_spoilt" "_law_spoilt" (defArgs s__law_spoilt) (defBody s__law_spoilt) (defScope s__law_spoilt) .none kV16 dc16 pm16 an16 cd16 ct16), sl16⟩) (c16 : PySem.W.codeIn K cd16 "_law_spoilt" = true) (k16 : PySem.W.keepIn K (.ref f16) = true)
    (a17 : PySem.W.nsIn K mainGlobals "_law_whole" = some (some (.ref f17))) (l17 : K.lookup f17 = some ⟨oc17, od17, .func (PySem.W.fnOf "_law_whole" "_law_whole" (defArgs s__law_whole) (defBody s__law_whole) (defScope s__law_whole) .none kV17 dc17 pm17 an17 cd17 ct17), sl17⟩) (c17 : PySem.W.codeIn K cd17 "_law_whole" = true) (k17 : PySem.W.keepIn K (.ref f17) = true)
    (a18 : PySem.W.nsIn K mainGlobals "_law_is_entry" = some (some (.ref f18))) (l18 : K.lookup f18 = some ⟨oc18, od18, .func (PySem.W.fnOf "_law_is_entry" "_law_is_entry" (defArgs s__law_is_entry) (defBody s__law_is_entry) (defScope s__law_is_entry) .none kV18 dc18 pm18 an18 cd18 ct18), sl18⟩) (c18 : PySem.W.codeIn K cd18 "_law_is_entry" = true) (k18 : PySem.W.keepIn K (.ref f18) = true)
    (a19 : PySem.W.nsIn K mainGlobals "_law_is_table" = some (some (.ref f19))) (l19 : K.lookup f19 = some ⟨oc19, od19, .func (PySem.W.fnOf "_law_is_table" "_law_is_table" (defArgs s__law_is_table) (defBody s__law_is_table) (defScope s__law_is_table) .none kV19 dc19 pm19 an19 cd19 ct19), sl19⟩) (c19 : PySem.W.codeIn K cd19 "_law_is_table" = true) (k19 : PySem.W.keepIn K (.ref f19) = true)
    (a20 : PySem.W.nsIn K mainGlobals "_law_refused" = some (some (.ref f20))) (l20 : K.lookup f20 = some ⟨oc20, od20, .func (PySem.W.fnOf "_law_refused" "_law_refused" (defArgs s__law_refused) (defBody s__law_refused) (defScope s__law_refused) .none kV20 dc20 pm20 an20 cd20 ct20), sl20⟩) (c20 : PySem.W.codeIn K cd20 "_law_refused" = true) (k20 : PySem.W.keepIn K (.ref f20) = true)
    (a21 : PySem.W.nsIn K mainGlobals "law" = some (some (.ref f21))) (l21 : K.lookup f21 = some ⟨oc21, od21, .func (PySem.W.fnOf "law" "law" (defArgs s_law) (defBody s_law) (defScope s_law) .none kV21 dc21 pm21 an21 cd21 ct21), sl21⟩) (c21 : PySem.W.codeIn K cd21 "law" = true) (k21 : PySem.W.keepIn K (.ref f21) = true)
    (EgH : PySem.W.nsIn K mainGlobals "HandError" = some (some (.ref CH))) (EqH : PySem.W.clsIn K CH = some yH) (EmH : yH.mro = .ref CH :: bmV) (EtH : PySem.W.typeIn K (.ref CH) = some (.type "type"))
    (Eg0 : PySem.W.nsIn K mainGlobals "NoHouse" = some (some (.ref x0))) (Eq0 : PySem.W.clsIn K x0 = some y0) (Em0 : y0.mro = .ref x0 :: .ref CH :: bmV) (Et0 : PySem.W.typeIn K (.ref x0) = some (.type "type")) (Ep0 : PySem.W.keepIn K (.ref x0) = true) (Ega0 : PySem.W.findIn K (.ref x0) "__getattribute__" = some (some (.builtin "BaseException.__getattribute__"))) (Egt0 : PySem.W.findIn K (.ref x0) "__getattr__" = some none) (Eca0 : PySem.W.findIn K (.ref x0) "__class__" = some (some (.builtin "object.__class__"))) (Eex0 : PySem.W.excIn K x0 bmV "ValueError.__new__" = true)
    (Enn : PySem.W.specialIn K (.builtin "object.__class__") "__get__" = some (some (.builtin "getset_descriptor.__get__"))) (Etk : PySem.W.takesIn K (.builtin "object.__class__") = some true) (End : (CH :: [x0]).Nodup)
    (z_ValueError : PySem.W.nsIn K mainGlobals "ValueError" = some none)
    (z_abs : PySem.W.nsIn K mainGlobals "abs" = some none)
    (z_all : PySem.W.nsIn K mainGlobals "all" = some none)
    (z_bool : PySem.W.nsIn K mainGlobals "bool" = some none)
    (z_enumerate : PySem.W.nsIn K mainGlobals "enumerate" = some none)
    (z_int : PySem.W.nsIn K mainGlobals "int" = some none)
    (z_isinstance : PySem.W.nsIn K mainGlobals "isinstance" = some none)
    (z_len : PySem.W.nsIn K mainGlobals "len" = some none)
    (z_list : PySem.W.nsIn K mainGlobals "list" = some none)
    (z_max : PySem.W.nsIn K mainGlobals "max" = some none)
    (z_min : PySem.W.nsIn K mainGlobals "min" = some none)
    (z_range : PySem.W.nsIn K mainGlobals "range" = some none)
    (z_set : PySem.W.nsIn K mainGlobals "set" = some none)
    (z_str : PySem.W.nsIn K mainGlobals "str" = some none)
    (z_tuple : PySem.W.nsIn K mainGlobals "tuple" = some none)
    (z_zip : PySem.W.nsIn K mainGlobals "zip" = some none)
    (e_LETTERS : PySem.W.nsIn K mainGlobals "LETTERS" = some (some (.str "abcdefghijklmnopqrstuvwxyz" t_LETTERS)))
    (e_FEWEST_HANDS : PySem.W.nsIn K mainGlobals "FEWEST_HANDS" = some (some (.int 2 t_FEWEST_HANDS)))
    (e_MOST_HANDS : PySem.W.nsIn K mainGlobals "MOST_HANDS" = some (some (.int 4 t_MOST_HANDS)))
    (e_MOST_LETTERS : PySem.W.nsIn K mainGlobals "MOST_LETTERS" = some (some (.int 6 t_MOST_LETTERS)))
    (e_MOST : PySem.W.nsIn K mainGlobals "MOST" = some (some (.int 600 t_MOST))) :
    ∃ (fd : FuncData) (ts : List (Addr × NdefX.NTab)), (∀ t ∈ ts, h.get? t.2.1 = some { cls := .none, data := .fields #[] } ∧ K.lookup t.2.1 = none ∧ PySem.W.CodeHd h t.1 t.2.1) ∧ (∀ (s : Shared) (v : Value), BindsTo s fd ⟨[v], []⟩ [("_law_script", v)]) ∧ ∀ base : Heap, K.In base → base.Ns mainGlobals mg → (∀ t ∈ ts, LamX.TabB base mg t.1 t.2.1) → FnOk P w K mg base (L2N.CX P w) 8 fa fd ["_law_script"] (@spTop (tabc w (ts.map (·.2))) K (List.replicate 1 false) m_law) := by
  have e := hfa.symm.trans (PySem.W.mg_of X G a21)
  cases e
  have B : Bi mg := ⟨PySem.W.mg_none_of X G z_ValueError, PySem.W.mg_none_of X G z_abs, PySem.W.mg_none_of X G z_all, PySem.W.mg_none_of X G z_bool, PySem.W.mg_none_of X G z_enumerate, PySem.W.mg_none_of X G z_int, PySem.W.mg_none_of X G z_isinstance, PySem.W.mg_none_of X G z_len, PySem.W.mg_none_of X G z_list, PySem.W.mg_none_of X G z_max, PySem.W.mg_none_of X G z_min, PySem.W.mg_none_of X G z_range, PySem.W.mg_none_of X G z_set, PySem.W.mg_none_of X G z_str, PySem.W.mg_none_of X G z_tuple, PySem.W.mg_none_of X G z_zip, ⟨_, PySem.W.mg_of X G e_LETTERS⟩, ⟨_, PySem.W.mg_of X G e_FEWEST_HANDS⟩, ⟨_, PySem.W.mg_of X G e_MOST_HANDS⟩, ⟨_, PySem.W.mg_of X G e_MOST_LETTERS⟩, ⟨_, PySem.W.mg_of X G e_MOST⟩⟩
  have XT : ETx K mg CH [x0] := by
    refine ⟨⟨by simp, fun i C n hi hn => ?_, fun C hC => ?_, End, PySem.W.mg_of X G EgH, ⟨_, EqH, EmH⟩, EtH, Enn, Etk⟩, fun i n8 n11 C hi => ?_⟩
    · match i, hi, hn with
      | 0, hi, hn => cases hi; cases hn; exact PySem.W.mg_of X G Eg0
      | i + 1, hi, hn => simp at hi
    · simp only [List.mem_cons, List.not_mem_nil, or_false] at hC
      rcases hC with rfl
      · exact ⟨⟨_, Eq0, Em0⟩, Et0, Ep0, Ega0, Egt0, Eca0⟩
    · match i, n8, n11, hi with
      | 0, n8, n11, hi => cases hi; exact Eex0
      | i + 1, n8, n11, hi => simp at hi
  refine ⟨PySem.W.fnOf "law" "law" (defArgs s_law) (defBody s_law) (defScope s_law) .none kV21 dc21 pm21 an21 cd21 ct21, [], ?_, fun s v => .of_eq rfl, fun base _ _ TBS => ?_⟩
  · intro t ht; cases ht
  letI I0 : TabC := tabc w []
  have hw : w = I0.w := rfl
  have C__law_take : Cal P w K mg base (RXP [x0]) "_law_take" 1 (true :: List.replicate 1 false) m__law_take := ok__law_take (fun_mk (st := s__law_take) l0 c0 k0) (PySem.W.mg_of X G a0) B hw XT 
  have C__law_house : Cal P w K mg base (RXP [x0]) "_law_house" 2 (true :: List.replicate 0 false) m__law_house := ok__law_house (fun_mk (st := s__law_house) l1 c1 k1) (PySem.W.mg_of X G a1) B hw XT C__law_take
  have C__law_bag : Cal P w K mg base (RXP [x0]) "_law_bag" 1 (List.replicate 1 false) m__law_bag := ok__law_bag (fun_mk (st := s__law_bag) l2 c2 k2) (PySem.W.mg_of X G a2) B hw XT 
  have C__law_cell : Cal P w K mg base (RXP [x0]) "_law_cell" 1 (List.replicate 2 false) m__law_cell := ok__law_cell (fun_mk (st := s__law_cell) l3 c3 k3) (PySem.W.mg_of X G a3) B hw XT 
  have C__law_drawn_table : Cal P w K mg base (RXP [x0]) "_law_drawn_table" 2 (true :: List.replicate 1 false) m__law_drawn_table := ok__law_drawn_table (fun_mk (st := s__law_drawn_table) l4 c4 k4) (PySem.W.mg_of X G a4) B hw XT C__law_take
  have C_is_whole : Cal P w K mg base (RXP [x0]) "is_whole" 1 (List.replicate 1 false) m_is_whole := ok_is_whole (fun_mk (st := s_is_whole) l5 c5 k5) (PySem.W.mg_of X G a5) B hw XT 
  have C_is_sign : Cal P w K mg base (RXP [x0]) "is_sign" 1 (List.replicate 1 false) m_is_sign := ok_is_sign (fun_mk (st := s_is_sign) l6 c6 k6) (PySem.W.mg_of X G a6) B hw XT 
  have C_is_rising : Cal P w K mg base (RXP [x0]) "is_rising" 2 (List.replicate 2 false) m_is_rising := ok_is_rising (fun_mk (st := s_is_rising) l7 c7 k7) (PySem.W.mg_of X G a7) B hw XT C_is_whole
  have C_is_entry : Cal P w K mg base (RXP [x0]) "is_entry_houses" 3 (List.replicate 2 false) m_is_entry := ok_is_entry (fun_mk (st := s_is_entry) l8 c8 k8) (PySem.W.mg_of X G a8) B hw XT C_is_rising C_is_sign
  have C_is_house : Cal P w K mg base (RXP [x0]) "is_house" 4 (List.replicate 1 false) m_is_house := ok_is_house (fun_mk (st := s_is_house) l9 c9 k9) (PySem.W.mg_of X G a9) B hw XT C_is_entry C_is_whole
  have C_look_house : Cal P w K mg base (RXP [x0]) "look_house" 5 (List.replicate 1 false) m_look_house := ok_look_house (fun_mk (st := s_look_house) l10 c10 k10) (PySem.W.mg_of X G a10) B hw XT C_is_house
  have C_is_entry_tables : Cal P w K mg base (RXP [x0]) "is_entry_tables" 2 (List.replicate 3 false) m_is_entry_tables := ok_is_entry_tables (fun_mk (st := s_is_entry_tables) l11 c11 k11) (PySem.W.mg_of X G a11) B hw XT C_is_whole
  have C_is_done_apart : Cal P w K mg base (RXP [x0]) "is_done_apart" 1 (List.replicate 3 false) m_is_done_apart := ok_is_done_apart (fun_mk (st := s_is_done_apart) l12 c12 k12) (PySem.W.mg_of X G a12) B hw XT 
  have C_is_table_of : Cal P w K mg base (RXP [x0]) "is_table_of" 3 (List.replicate 2 false) m_is_table_of := ok_is_table_of (fun_mk (st := s_is_table_of) l13 c13 k13) (PySem.W.mg_of X G a13) B hw XT C_is_done_apart C_is_entry_tables
  have C_is_table : Cal P w K mg base (RXP [x0]) "is_table" 6 (List.replicate 2 false) m_is_table := ok_is_table (fun_mk (st := s_is_table) l14 c14 k14) (PySem.W.mg_of X G a14) B hw XT C_is_table_of C_look_house
  have C__law_odd : Cal P w K mg base (RXP [x0]) "_law_odd" 1 (List.replicate 1 false) m__law_odd := ok__law_odd (fun_mk (st := s__law_odd) l15 c15 k15) (PySem.W.mg_of X G a15) B hw XT 
  have C__law_spoilt : Cal P w K mg base (RXP [x0]) "_law_spoilt" 2 [false, true] m__law_spoilt := ok__law_spoilt (fun_mk (st := s__law_spoilt) l16 c16 k16) (PySem.W.mg_of X G a16) B hw XT C__law_take C__law_odd
  have C__law_whole : Cal P w K mg base (RXP [x0]) "_law_whole" 1 (List.replicate 1 false) m__law_whole := ok__law_whole (fun_mk (st := s__law_whole) l17 c17 k17) (PySem.W.mg_of X G a17) B hw XT 
  have C__law_is_entry : Cal P w K mg base (RXP [x0]) "_law_is_entry" 2 (List.replicate 3 false) m__law_is_entry := ok__law_is_entry (fun_mk (st := s__law_is_entry) l18 c18 k18) (PySem.W.mg_of X G a18) B hw XT C__law_whole
  have C__law_is_table : Cal P w K mg base (RXP [x0]) "_law_is_table" 3 (List.replicate 2 false) m__law_is_table := ok__law_is_table (fun_mk (st := s__law_is_table) l19 c19 k19) (PySem.W.mg_of X G a19) B hw XT C__law_is_entry
  have C__law_refused : Cal P w K mg base (RXP [x0]) "_law_refused" 7 (List.replicate 0 false) m__law_refused := ok__law_refused (fun_mk (st := s__law_refused) l20 c20 k20) (PySem.W.mg_of X G a20) B hw XT C_is_table
  exact fnOk_top (ok_law_fn (fun_mk (st := s_law) l21 c21 k21) B hw XT C__law_refused C_is_table C__law_is_table C__law_spoilt C__law_bag C__law_cell C__law_drawn_table C__law_house)
end Law
namespace Law
open PySem PySem.Spec PyProof.Rows L2 Hap M
local instance : TabC := noTab
section
variable {h : Nat} {L : List (Nat × List Nat)} {R : List Nat}
/-- a comprehension whose turns change what stands -/
theorem lc_run {i : Ev → Hap.R (List D)} {t : D → Ev → Option Ev} {f : Ev → Hap.R D} {vs : List Nat} {g : Nat → D} {n : Nat} {ρ ρ1 : Ev} (I : Nat → List D → Ev → Prop)
    (hi : i ρ = .ok ((List.range n).map g) ρ1) (him : immAt ρ1 vs = true) (hl : n ≤ sizeLine) (h0 : I 0 [] (wipeE ρ1 vs))
    (hs : ∀ k acc W, k < n → I k acc W → ∃ ρ2, t (g k) W = some ρ2 ∧ ∃ d ρ4, f ρ2 = .ok d ρ4 ∧ I (k + 1) (acc ++ [d]) (wipeE ρ4 vs)) :
    ∃ acc W, fLc i t fYes f vs ρ = .ok (.lst true acc) (backE ρ1 W vs) ∧ I n acc W := by
  have key : ∀ (m k : Nat) (acc : List D) (W : Ev), k + m = n → I k acc W → ∃ acc' W', loopC t fYes f vs ((List.range' k m).map g) acc W = .ok acc' W' ∧ I n acc' W' := by
    intro m
    induction m with
    | zero => intro k acc W e hI; rw [Nat.add_zero] at e; subst e; exact ⟨acc, W, rfl, hI⟩
    | succ m ih =>
      intro k acc W e hI
      obtain ⟨ρ2, h1, d, ρ4, h2, h3⟩ := hs k acc W (by omega) hI
      obtain ⟨acc', W', h4, h5⟩ := ih (k + 1) _ _ (by omega) h3
      refine ⟨acc', W', ?_, h5⟩
      rw [List.range'_succ, List.map_cons, loopC, h1]
      dsimp only [fYes]
      rw [h2]
      exact h4
  obtain ⟨acc, W, h1, h2⟩ := key n 0 [] _ (by omega) h0
  refine ⟨acc, W, ?_, h2⟩
  unfold fLc
  rw [hi]
  dsimp only [R.bind]
  rw [if_pos ⟨him, by rw [List.length_map, List.length_range]; exact hl⟩, List.range_eq_range', h1]
def growB (s : Nat) (rs : List (List Nat)) : List (List Nat) := rs.flatMap fun x => (List.range s).map fun i => x ++ [i]
theorem growB_len (s : Nat) : ∀ rs : List (List Nat), (growB s rs).length = rs.length * s
  | [] => by simp [growB]
  | x :: rs => by
    have ih := growB_len s rs
    unfold growB at ih ⊢
    rw [List.flatMap_cons, List.length_append, List.length_map, List.length_range, ih, List.length_cons, Nat.succ_mul]; omega
theorem growB_app (s : Nat) (rs qs : List (List Nat)) : growB s (rs ++ qs) = growB s rs ++ growB s qs := by unfold growB; rw [List.flatMap_append]
theorem mem_growB {s : Nat} {rs : List (List Nat)} {x : List Nat} : x ∈ growB s rs ↔ ∃ y ∈ rs, ∃ i, i < s ∧ x = y ++ [i] := by
  unfold growB
  rw [List.mem_flatMap]
  constructor
  · rintro ⟨y, hy, h⟩
    obtain ⟨i, hi, rfl⟩ := List.mem_map.mp h
    exact ⟨y, hy, i, List.mem_range.mp hi, rfl⟩
  · rintro ⟨y, hy, i, hi, rfl⟩
    exact ⟨y, hy, List.mem_map.mpr ⟨i, List.mem_range.mpr hi, rfl⟩⟩
theorem growB_nodup (s : Nat) : ∀ {rs : List (List Nat)}, rs.Nodup → (growB s rs).Nodup
  | [], _ => by simp [growB]
  | x :: rs, h => by
    have h' := List.nodup_cons.mp h
    have ih := growB_nodup s h'.2
    have e : growB s (x :: rs) = ((List.range s).map fun i => x ++ [i]) ++ growB s rs := rfl
    rw [e, List.nodup_append]
    refine ⟨?_, ih, fun a ha b hb e2 => ?_⟩
    · rw [List.nodup_iff_pairwise_ne, List.pairwise_map]
      refine (List.nodup_iff_pairwise_ne.mp List.nodup_range).imp fun {a b} hne e2 => hne ?_
      exact (List.cons.inj (List.append_cancel_left e2)).1
    · subst e2
      obtain ⟨i, _, rfl⟩ := List.mem_map.mp ha
      obtain ⟨y, hy, j, _, e3⟩ := mem_growB.mp hb
      have := (List.append_inj' e3 rfl).1
      subst this
      exact h'.1 hy
def keyN (own : List Nat) (x : List Nat) : List Nat := own.map fun i => x.getD i 0
theorem ext_getD {n : Nat} {x y : List Nat} (h1 : x.length = n) (h2 : y.length = n) (h : ∀ i, i < n → x.getD i 0 = y.getD i 0) : x = y := by
  refine List.ext_getElem? fun i => ?_
  by_cases c : i < n
  · have := h i c
    rw [List.getD_eq_getElem?_getD, List.getD_eq_getElem?_getD, List.getElem?_eq_getElem (by omega), List.getElem?_eq_getElem (by omega)] at this
    rw [List.getElem?_eq_getElem (by omega), List.getElem?_eq_getElem (by omega)]
    exact congrArg some this
  · rw [List.getElem?_eq_none (by omega), List.getElem?_eq_none (by omega)]
theorem v2_of {g : D → D → Option D} {f k : Ev → Option D} {ρ : Ev} {d e x : D} (h1 : f ρ = some d) (h2 : k ρ = some e) (h3 : g d e = some x) : vOp2 g f k ρ = some x := by
  rw [ap_v2, h1, Option.bind_some, h2, Option.bind_some, h3]
def kD (x : List Nat) : D := .tup (x.map natD)
@[simp] theorem frz_kD {x : List Nat} : frz (kD x) = kD x := by unfold kD; rw [frz_tup, frzs_mapf (g := natD) fun _ _ => rfl]
@[simp] theorem imm_kD {x : List Nat} : isImm (kD x) = true := by unfold kD; rw [imm_tup]; exact imms_map fun _ _ => rfl
theorem frzs_kD {rs : List (List Nat)} : frzs (rs.map kD) = rs.map kD := frzs_mapf fun _ _ => frz_kD
theorem imms_kD {rs : List (List Nat)} : isImms (rs.map kD) = true := imms_map fun _ _ => imm_kD
theorem sh_kD {x : List Nat} : Sh 60 (kD x) := sh_tup (n := 59) fun d hd => by obtain ⟨y, _, rfl⟩ := List.mem_map.mp hd; exact sh_int
theorem eqd_kD : EqD kD := fun xs ys => by simp only [kD, toPy, PyData.eqv, eqd_all eqd_natD]
theorem dt7 {s : Nat} (hs : s ≤ 3) {x : List Nat} (hx : x.length ≤ 10) {gs : List (List Nat)} (hg : gs.length ≤ 100) {v0 v1 v2 v3 v4 v7 v8 v9 v10 v11 v12 v13 v14 v15 v16 v17 v18 v19 : Option D} :
    stepS (gN 7) l__law_drawn_table_7 (kD x) [v0, v1, v2, v3, v4, some (.int (s : Int)), some (.lst true (gs.map kD)), v7, v8, v9, v10, v11, v12, v13, v14, v15, v16, v17, v18, v19, none]
      = .nx [v0, v1, v2, v3, v4, some (.int (s : Int)), some (.lst true ((gs ++ (List.range s).map fun i => x ++ [i]).map kD)), some (kD x), v8, v9, v10, v11, v12, v13, v14, v15, v16, v17, v18, v19, none] := by
  have r1 := rng1_n (n := s) (by omega)
  have hs1 : 1 ≤ sizeLine := by decide
  have hsx : x.length + 1 ≤ sizeLine := by unfold sizeLine; omega
  have ad : ∀ i : Nat, gAddT (kD x) (.tup [.int (i : Int)]) = some (kD (x ++ [i])) := fun i => by
    unfold kD
    rw [add_tt, if_pos ⟨⟨imms_map fun _ _ => rfl, rfl⟩, by rw [List.length_map]; exact hsx⟩, List.map_append]; rfl
  have lc : ∀ v6, fLc (fItN rng1 (fCons (fVar 5) fNil)) (gN 20) fYes (fI (vOp2 gAddT (vVar 7) (vTup (vCons (vVar 20) vNil)))) [20] [v0, v1, v2, v3, v4, some (.int (s : Int)), v6, some (kD x), v8, v9, v10, v11, v12, v13, v14, v15, v16, v17, v18, v19, none]
      = .ok (.lst true ((List.range s).map fun i => kD (x ++ [i]))) [v0, v1, v2, v3, v4, some (.int (s : Int)), v6, some (kD x), v8, v9, v10, v11, v12, v13, v14, v15, v16, v17, v18, v19, none] := fun v6 => by
    refine lc_all (g := fun i : Nat => .int (i : Int)) (e := fun i => kD (x ++ [i])) (by simp [r1]) (by simp) (by rw [List.length_range]; unfold sizeLine; omega) fun i _ => ?_
    have ai := ad i
    have ik := imm_kD (x := x ++ [i])
    generalize kD (x ++ [i]) = K2 at *
    generalize kD x = K1 at *
    exact ⟨[v0, v1, v2, v3, v4, some (.int (s : Int)), v6, some K1, v8, v9, v10, v11, v12, v13, v14, v15, v16, v17, v18, v19, some (.int (i : Int))], by simp, [v0, v1, v2, v3, v4, some (.int (s : Int)), v6, some K1, v8, v9, v10, v11, v12, v13, v14, v15, v16, v17, v18, v19, some (.int (i : Int))], by simp [hs1, ai, ik], by simp⟩
  have fz : frzs ((List.range s).map fun i => kD (x ++ [i])) = (List.range s).map fun i => kD (x ++ [i]) := frzs_mapf fun _ _ => frz_kD
  have hl : (gs.map kD).length + ((List.range s).map fun i => kD (x ++ [i])).length ≤ sizeLine := by rw [List.length_map, List.length_map, List.length_range]; unfold sizeLine; omega
  have em : (gs ++ (List.range s).map fun i => x ++ [i]).map kD = gs.map kD ++ (List.range s).map fun i => kD (x ++ [i]) := by rw [List.map_append, List.map_map]; rfl
  rw [ap_step, em]; unfold l__law_drawn_table_7
  generalize ((List.range s).map fun i => kD (x ++ [i])) = ZS at *
  generalize gs.map kD = GS at *
  generalize kD x = K1 at *
  simp [lc, fz, hl]
def kK (x : List Nat) : List Key := x.map fun i : Nat => (Sum.inl (i : Int) : Key)
theorem kK_inj : ∀ {x y : List Nat}, kK x = kK y ↔ x = y
  | [], [] => by simp [kK]
  | [], _ :: _ => by simp [kK]
  | _ :: _, [] => by simp [kK]
  | a :: x, b :: y => by
    have ih := kK_inj (x := x) (y := y)
    unfold kK at ih ⊢
    rw [List.map_cons, List.map_cons, List.cons.injEq, List.cons.injEq, ih]
    constructor
    · rintro ⟨h1, h2⟩
      have := Sum.inl.inj h1
      exact ⟨by omega, h2⟩
    · rintro ⟨h1, h2⟩; exact ⟨by rw [h1], h2⟩
theorem keysOf_kK : ∀ x : List Nat, keysOf (x.map natD) = some (kK x)
  | [] => rfl
  | a :: x => by
    rw [List.map_cons]; unfold keysOf
    rw [keysOf_kK x]; rfl
theorem memK_iff {κ : Type} [DecidableEq κ] {k : κ} {ks : List κ} : memK k ks = true ↔ k ∈ ks := by unfold memK; exact decide_eq_true_iff
theorem kD_at {x : List Nat} {i : Nat} (hi : i < x.length) : gIx (kD x) (.int (i : Int)) = some (natD (x.getD i 0)) := by
  unfold kD
  rw [ix_t, at_nat, List.getElem?_map, List.getElem?_eq_getElem hi, List.getD_eq_getElem?_getD, List.getElem?_eq_getElem hi]; rfl
/-- what the memories are -/
structure Box3 (n : Nat) (sz : Nat → Nat) (rs : List (List Nat)) : Prop where
  mem : ∀ x, x ∈ rs ↔ x.length = n ∧ ∀ i, i < n → x.getD i 0 < sz i
  nodup : rs.Nodup
  len : rs.length ≤ 3 ^ n
  ne : 1 ≤ rs.length
theorem Box3.zero {sz : Nat → Nat} : Box3 0 sz [[]] := ⟨fun x => by
  rw [List.mem_singleton]
  exact ⟨fun e => by subst e; exact ⟨rfl, fun i hi => by omega⟩, fun h => List.eq_nil_of_length_eq_zero h.1⟩, by simp, by simp, by simp⟩
theorem snoc_getD {n : Nat} {y : List Nat} {i j : Nat} (hy : y.length = n) : (y ++ [i]).getD j 0 = if j = n then i else y.getD j 0 := by
  rw [List.getD_eq_getElem?_getD, List.getElem?_append]
  by_cases c : j = n
  · rw [if_pos c, if_neg (by omega), c, hy]; simp
  · rw [if_neg c]
    by_cases c2 : j < y.length
    · rw [if_pos c2, List.getD_eq_getElem?_getD]
    · rw [if_neg c2, List.getElem?_eq_none (by simp; omega), List.getD_eq_getElem?_getD, List.getElem?_eq_none (by omega)]
theorem Box3.step {n s : Nat} {sz : Nat → Nat} {rs : List (List Nat)} (B : Box3 n sz rs) (hs : 1 ≤ s) (h3 : s ≤ 3) (e : sz n = s) : Box3 (n + 1) sz (growB s rs) := by
  refine ⟨fun x => ?_, growB_nodup s B.nodup, by rw [growB_len, Nat.pow_succ]; exact Nat.mul_le_mul B.len h3, by rw [growB_len]; exact Nat.mul_le_mul B.ne hs⟩
  rw [mem_growB]
  constructor
  · rintro ⟨y, hy, i, hi, rfl⟩
    obtain ⟨h1, h2⟩ := (B.mem y).mp hy
    refine ⟨by simp [h1], fun j hj => ?_⟩
    rw [snoc_getD h1]
    by_cases c : j = n
    · rw [if_pos c, c, e]; exact hi
    · rw [if_neg c]; exact h2 j (by omega)
  · rintro ⟨h1, h2⟩
    have ex : x = x.take n ++ [x.getD n 0] := by
      have e1 : x.drop n = [x.getD n 0] := by
        rw [List.drop_eq_getElem_cons (by omega), List.drop_eq_nil_of_le (by omega), List.getD_eq_getElem?_getD, List.getElem?_eq_getElem (by omega)]; rfl
      rw [← e1, List.take_append_drop]
    have lt : (x.take n).length = n := by rw [List.length_take]; omega
    refine ⟨x.take n, (B.mem _).mpr ⟨lt, fun i hi => ?_⟩, x.getD n 0, ?_, ex⟩
    · have := h2 i (by omega)
      rw [ex, snoc_getD lt, if_neg (by omega)] at this
      exact this
    · have := h2 n (by omega)
      rwa [e] at this
theorem dt8 {s : Nat} (hs : s ≤ 3) {rs : List (List Nat)} (lx : ∀ x ∈ rs, x.length ≤ 10) (hl : rs.length ≤ 27) {o : Bool} {v0 v1 v2 v3 v5 v6 v7 v8 v9 v10 v11 v12 v13 v14 v15 v16 v17 v18 v19 : Option D} : ∃ (v6' v7' : Option D),
    stepS (gN 5) l__law_drawn_table_8 (.int (s : Int)) [v0, v1, v2, v3, some (.lst o (rs.map kD)), v5, v6, v7, v8, v9, v10, v11, v12, v13, v14, v15, v16, v17, v18, v19, none]
      = .nx [v0, v1, v2, v3, some (.lst false ((growB s rs).map kD)), some (.int (s : Int)), v6', v7', v8, v9, v10, v11, v12, v13, v14, v15, v16, v17, v18, v19, none] := by
  have h0 : 0 ≤ sizeLine := by decide
  obtain ⟨ρ', lp, v7', rfl⟩ := loopM (step := stepS (gN 7) l__law_drawn_table_7) (f := kD) (xs := rs) (ρ := [v0, v1, v2, v3, some (.lst false (rs.map kD)), some (.int (s : Int)), some (.lst true ((growB s (rs.take 0)).map kD)), v7, v8, v9, v10, v11, v12, v13, v14, v15, v16, v17, v18, v19, none])
    (fun j ρ => ∃ v7 : Option D, ρ = [v0, v1, v2, v3, some (.lst false (rs.map kD)), some (.int (s : Int)), some (.lst true ((growB s (rs.take j)).map kD)), v7, v8, v9, v10, v11, v12, v13, v14, v15, v16, v17, v18, v19, none])
    ⟨v7, rfl⟩ (by
      rintro j x ρ hj ⟨w7, rfl⟩
      have hjl := (List.getElem?_eq_some_iff.mp hj).1
      have tk : rs.take (j + 1) = rs.take j ++ [x] := by rw [List.take_succ, hj]; rfl
      have gl : (growB s (rs.take j)).length ≤ 100 := by
        rw [growB_len, List.length_take]
        have : min j rs.length * s ≤ 27 * 3 := Nat.mul_le_mul (by omega) hs
        omega
      have e := dt7 hs (lx x (List.mem_of_getElem? hj)) gl (v0 := v0) (v1 := v1) (v2 := v2) (v3 := v3) (v4 := some (.lst false (rs.map kD))) (v7 := w7) (v8 := v8) (v9 := v9) (v10 := v10) (v11 := v11) (v12 := v12) (v13 := v13) (v14 := v14) (v15 := v15) (v16 := v16) (v17 := v17) (v18 := v18) (v19 := v19)
      refine ⟨_, e, some (kD x), ?_⟩
      rw [tk, growB_app]
      have : growB s [x] = (List.range s).map fun i => x ++ [i] := by unfold growB; rw [List.flatMap_cons, List.flatMap_nil, List.append_nil]
      rw [this])
  rw [List.take_length] at lp
  have fzR := frzs_kD (rs := rs)
  have imR := imms_kD (rs := rs)
  have fzG := frzs_kD (rs := growB s rs)
  have lp : loopS (stepS (gN 7) l__law_drawn_table_7) (rs.map kD) [v0, v1, v2, v3, some (.lst false (rs.map kD)), some (.int (s : Int)), some (.lst true []), v7, v8, v9, v10, v11, v12, v13, v14, v15, v16, v17, v18, v19, none] = _ := lp
  refine ⟨some (.lst false ((growB s rs).map kD)), v7', ?_⟩
  rw [ap_step]; unfold l__law_drawn_table_8
  generalize (growB s rs).map kD = GG at *
  generalize rs.map kD = RS at *
  simp [h0, fzR, imR, lp, fzG]
/-- one more letter's rule: of each key that was met what is due -/
def ruO (P : List (List Nat × List Nat)) : D := .dcT true (P.map fun p => kK p.1) (P.map fun p => ownD true p.2)
def ruF (P : List (List Nat × List Nat)) : D := .dcT false (P.map fun p => kK p.1) (P.map fun p => ownD false p.2)
theorem frz_ru {P : List (List Nat × List Nat)} : frz (ruO P) = ruF P := by
  unfold ruO ruF
  have : frzs (P.map fun p => ownD true p.2) = P.map fun p => ownD false p.2 := frzs_mapf fun _ _ => frz_own
  show D.dcT false _ (frzs _) = _
  rw [this]
theorem imm_ruF {P : List (List Nat × List Nat)} : isImm (ruF P) = true := by
  unfold ruF
  show (!false && isImms _) = true
  rw [imms_map fun _ _ => imm_own]; rfl
def lkQ : List (List Nat × List Nat) → List Nat → Option (List Nat)
  | [], _ => none
  | p :: P, x => if p.1 = x then some p.2 else lkQ P x
theorem lkQ_cons {p : List Nat × List Nat} {P : List (List Nat × List Nat)} {x : List Nat} : lkQ (p :: P) x = if p.1 = x then some p.2 else lkQ P x := rfl
theorem lkQ_app {P Q : List (List Nat × List Nat)} {x : List Nat} : lkQ (P ++ Q) x = match lkQ P x with | some y => some y | none => lkQ Q x := by
  induction P with
  | nil => rfl
  | cons p P ih =>
    rw [List.cons_append, lkQ_cons, lkQ_cons]
    by_cases c : p.1 = x
    · rw [if_pos c, if_pos c]
    · rw [if_neg c, if_neg c, ih]
theorem lkQ_mem {P : List (List Nat × List Nat)} {x y : List Nat} (h : lkQ P x = some y) : ∃ p ∈ P, p.1 = x ∧ p.2 = y := by
  induction P with
  | nil => cases h
  | cons p P ih =>
    rw [lkQ_cons] at h
    by_cases c : p.1 = x
    · rw [if_pos c] at h; cases h
      exact ⟨p, List.mem_cons_self, c, rfl⟩
    · rw [if_neg c] at h
      obtain ⟨q, h1, h2⟩ := ih h
      exact ⟨q, List.mem_cons_of_mem _ h1, h2⟩
theorem ruF_get : ∀ (P : List (List Nat × List Nat)) (x : List Nat), getK (P.map fun p => kK p.1) (P.map fun p => ownD false p.2) (kK x) = (lkQ P x).map (ownD false)
  | [], x => rfl
  | p :: P, x => by
    rw [List.map_cons, List.map_cons]
    unfold getK
    rw [ruF_get P x, lkQ_cons]
    by_cases c : p.1 = x
    · rw [if_pos (kK_inj.mpr c), if_pos c]; rfl
    · rw [if_neg fun z => c (kK_inj.mp z), if_neg c]
theorem ruF_ix {P : List (List Nat × List Nat)} {x y : List Nat} (h : lkQ P x = some y) : gIx (ruF P) (kD x) = some (ownD false y) := by
  show (keysOf (x.map natD)).bind _ = _
  rw [keysOf_kK, Option.bind_some, ruF_get, h]; rfl
theorem ruO_mem : ∀ {P : List (List Nat × List Nat)} {x : List Nat}, kK x ∈ (P.map fun p => kK p.1) ↔ (lkQ P x).isSome = true
  | [], x => by simp [lkQ]
  | p :: P, x => by
    rw [List.map_cons, List.mem_cons, ruO_mem (P := P), lkQ_cons]
    by_cases c : p.1 = x
    · rw [if_pos c]; exact ⟨fun _ => rfl, fun _ => .inl (kK_inj.mpr c.symm)⟩
    · rw [if_neg c]
      exact ⟨fun z => z.resolve_left fun w => c (kK_inj.mp w).symm, .inr⟩
theorem ruO_memK {P : List (List Nat × List Nat)} {x : List Nat} : memK (kK x) (P.map fun p => kK p.1) = (lkQ P x).isSome := by
  rw [Bool.eq_iff_iff, memK_iff]
  exact ruO_mem
theorem ruO_nin {P : List (List Nat × List Nat)} {x : List Nat} : gNin (kD x) (ruO P) = some (.bl (!(lkQ P x).isSome)) := by
  have e : gNin (kD x) (ruO P) = ((keysOf (x.map natD)).map fun k => memK k (P.map fun p => kK p.1)).map fun b => D.bl (!b) := rfl
  rw [e, keysOf_kK, Option.map_some, Option.map_some, ruO_memK]
theorem keysT_kD {x : List Nat} : keysT (kD x) = some (kK x) := keysOf_kK x
/-- the new key stands last -/
theorem posK_last : ∀ {P : List (List Nat × List Nat)} {x y : List Nat}, lkQ P x = none → posK ((P ++ [(x, y)]).map fun p => kK p.1) (kK x) = some P.length
  | [], x, y, _ => by
    show (if kK x = kK x then some 0 else _) = _
    rw [if_pos rfl]; rfl
  | p :: P, x, y, h => by
    rw [lkQ_cons] at h
    by_cases c : p.1 = x
    · rw [if_pos c] at h; cases h
    · rw [if_neg c] at h
      rw [List.cons_append, List.map_cons]
      show (if kK p.1 = kK x then some 0 else (posK ((P ++ [(x, y)]).map fun p => kK p.1) (kK x)).map (· + 1)) = _
      rw [if_neg fun z => c (kK_inj.mp z), posK_last h]; rfl
theorem own_items {o : Bool} {xs : List Nat} : itemsL (ownD o xs) = some (xs.map natD) := by
  unfold ownD
  rw [items_l, frzs_mapf (f := natD) (g := natD) fun _ _ => rfl]
theorem own_ix {o : Bool} {xs : List Nat} {i : Nat} (hi : i < xs.length) : gIx (ownD o xs) (.int (i : Int)) = some (natD (xs.getD i 0)) := by
  unfold ownD
  rw [ix_l, at_nat, List.getElem?_map, List.getElem?_eq_getElem hi, List.getD_eq_getElem?_getD, List.getElem?_eq_getElem hi]; rfl
theorem dTO1_ru {P : List (List Nat × List Nat)} {k : List (List Key) → List D → RS} : dTO1 (some (some (ruO P))) k = k (P.map fun p => kK p.1) (P.map fun p => ownD true p.2) := rfl
theorem dt4 {P : List (List Nat × List Nat)} {x acc szl : List Nat} {i k : Nat} {g : D} (hn : lkQ P x = none) (hi : i < szl.length) (hs1 : 1 ≤ szl.getD i 0) (hs3 : szl.getD i 0 ≤ 3) (hb : Bag k g) (hk : k < 2 ^ 40) (ha : acc.length ≤ 10)
    {v1 v2 v4 v5 v6 v7 v8 v9 v10 v13 v14 v15 v16 v17 v18 v19 v20 : Option D} : ∃ (g' : D) (r : Nat), r < szl.getD i 0 ∧ Bag (k + 1) g' ∧
    stepS (gN 13) l__law_drawn_table_4 (natD i) [some g, v1, v2, some (ownD false szl), v4, v5, v6, v7, v8, v9, v10, some (ruO (P ++ [(x, acc)])), some (kD x), v13, v14, v15, v16, v17, v18, v19, v20]
      = .nx [some g', v1, v2, some (ownD false szl), v4, v5, v6, v7, v8, v9, v10, some (ruO (P ++ [(x, acc ++ [r])])), some (kD x), some (natD i), v14, v15, v16, v17, v18, v19, v20] := by
  obtain ⟨r, g1, hr, hb1, t1⟩ := take_spec (m := (szl.getD i 0 : Int)) hb (by omega) (by omega) (by omega)
  refine ⟨g1, r, by omega, hb1, ?_⟩
  have ix := own_ix (o := false) hi
  have at' : ∀ kk : Nat → List D → RS, atK ((P ++ [(x, acc)]).map fun p => kK p.1) ((P ++ [(x, acc)]).map fun p => ownD true p.2) (some (kD x)) kk = kk P.length (acc.map natD) := fun kk =>
    atK_at keysT_kD (posK_last hn) (by rw [List.map_append, List.getElem?_append_right (by simp)]; simp; rfl)
  have ls : (acc.map natD).length < sizeLine := by rw [List.length_map]; unfold sizeLine; omega
  have e1 : D.dcT true ((P ++ [(x, acc)]).map fun p => kK p.1) (((P ++ [(x, acc)]).map fun p => ownD true p.2).set P.length (.lst true (acc.map natD ++ [.int (r : Int)]))) = ruO (P ++ [(x, acc ++ [r])]) := by
    unfold ruO
    have a1 : ((P ++ [(x, acc)]).map fun p => kK p.1) = ((P ++ [(x, acc ++ [r])]).map fun p => kK p.1) := by simp
    have a2 : ((P ++ [(x, acc)]).map fun p => ownD true p.2).set P.length (.lst true (acc.map natD ++ [.int (r : Int)])) = ((P ++ [(x, acc ++ [r])]).map fun p => ownD true p.2) := by
      rw [List.map_append, List.map_append, List.set_append_right _ _ (by simp)]
      have e3 : ownD true (acc ++ [r]) = .lst true (acc.map natD ++ [.int (r : Int)]) := by unfold ownD; rw [List.map_append]; rfl
      simp [e3]
    rw [a1, a2]
  rw [ap_step, ← e1]; unfold l__law_drawn_table_4
  have d1 := fun kk => dTO1_ru (P := P ++ [(x, acc)]) (k := kk)
  have e5 : natD (szl.getD i 0) = .int (szl.getD i 0 : Int) := rfl
  rw [e5] at ix
  have e6 : natD i = .int (i : Int) := rfl
  rw [e6]
  generalize szl.getD i 0 = sz at *
  generalize (P ++ [(x, acc)]).map (fun p => kK p.1) = KS at *
  generalize (P ++ [(x, acc)]).map (fun p => ownD true p.2) = XS at *
  generalize ruO (P ++ [(x, acc)]) = RU at *
  generalize acc.map natD = AC at *
  generalize ownD false szl = SZ at *
  generalize kD x = KX at *
  simp [d1, at', ix, t1, ls]
def Good (szl own due : List Nat) : Prop := due.length = own.length ∧ ∀ t, t < own.length → due.getD t 0 < szl.getD (own.getD t 0) 0
structure SzOk (h : Nat) (szl : List Nat) : Prop where
  len : szl.length = h
  lo : ∀ i, i < h → 1 ≤ szl.getD i 0
  hi : ∀ i, i < h → szl.getD i 0 ≤ 3
theorem dt5 (H : House h L) {szl : List Nat} (Z : SzOk h szl) {e : Nat × List Nat} (he : e ∈ L) {P : List (List Nat × List Nat)} (hP : ∀ p ∈ P, Good szl e.2 p.2) (hPl : P.length ≤ 100) {x : List Nat} (lx : x.length = h) {k : Nat} {g : D} (hb : Bag k g) (hk : k < 2 ^ 39)
    {v1 v2 v4 v5 v6 v7 v8 v9 v12 v13 v14 v15 v16 v17 v18 v19 v20 : Option D} (i13 : immO (some v13) = true) :
    ∃ (g' : D) (P' : List (List Nat × List Nat)) (due : List Nat) (v13' : Option D), stepS (gN 7) l__law_drawn_table_5 (kD x) [some g, v1, v2, some (ownD false szl), v4, v5, v6, v7, v8, v9, some (ownD false e.2), some (ruO P), v12, v13, v14, v15, v16, v17, v18, v19, v20]
      = .nx [some g', v1, v2, some (ownD false szl), v4, v5, v6, some (kD x), v8, v9, some (ownD false e.2), some (ruO P'), some (kD (keyN e.2 x)), v13', v14, v15, v16, v17, v18, v19, v20] ∧
      Bag (k + 4) g' ∧ (∀ p ∈ P', Good szl e.2 p.2) ∧ P'.length ≤ P.length + 1 ∧ (∀ z w, lkQ P z = some w → lkQ P' z = some w) ∧ lkQ P' (keyN e.2 x) = some due ∧ immO (some v13') = true := by
  have h4 := H.h4
  have wo := H.own e he
  have few := rise_len e.2 0 h wo.rise fun x hx => ⟨by omega, wo.lt x hx⟩
  obtain ⟨OW, hOW⟩ : ∃ OW, OW = e.2 := ⟨_, rfl⟩
  rw [← hOW] at wo few hP ⊢
  have oi := own_items (o := false) (xs := OW)
  have fo : frz (ownD false OW) = ownD false OW := frz_own
  have lc1 : fLc (fIt itemsL (fVar 10)) (gN 13) fYes (fI (vOp2 gIx (vVar 7) (vVar 13))) [13] [some g, v1, v2, some (ownD false szl), v4, v5, v6, some (kD x), v8, v9, some (ownD false OW), some (ruO P), v12, v13, v14, v15, v16, v17, v18, v19, v20]
      = .ok (.lst true (OW.map fun i => natD (x.getD i 0))) [some g, v1, v2, some (ownD false szl), v4, v5, v6, some (kD x), v8, v9, some (ownD false OW), some (ruO P), v12, v13, v14, v15, v16, v17, v18, v19, v20] := by
    refine lc_all (g := natD) (by simp [fo, oi]) (by simp [i13]) (by unfold sizeLine; omega) fun i hi => ?_
    have ka := kD_at (x := x) (i := i) (by rw [lx]; exact wo.lt i hi)
    generalize kD x = KX at *
    generalize ownD false OW = OE at *
    generalize ownD false szl = SZ at *
    generalize ruO P = RU at *
    exact ⟨[some g, v1, v2, some SZ, v4, v5, v6, some KX, v8, v9, some OE, some RU, v12, some (.int (i : Int)), v14, v15, v16, v17, v18, v19, v20], by simp [natD], [some g, v1, v2, some SZ, v4, v5, v6, some KX, v8, v9, some OE, some RU, v12, some (.int (i : Int)), v14, v15, v16, v17, v18, v19, v20], by simp [ka, natD], by simp⟩
  have gk : gTuple [.lst true (OW.map fun i => natD (x.getD i 0))] = some (kD (keyN OW x)) := by
    show (if _ then _ else _) = _
    rw [if_pos (imms_map fun _ _ => rfl)]
    unfold kD keyN
    rw [List.map_map]; rfl
  have iK := imm_kD (x := keyN OW x)
  have fK := frz_kD (x := keyN OW x)
  have nin := ruO_nin (P := P) (x := keyN OW x)
  have iX := imm_kD (x := x)
  have fX := frz_kD (x := x)
  rw [ap_step]; unfold l__law_drawn_table_5
  cases c : lkQ P (keyN OW x) with
  | some due =>
    rw [c] at nin
    refine ⟨g, P, due, v13, ?_, hb.mono (by omega), hP, by omega, fun _ _ h => h, c, i13⟩
    generalize (OW.map fun i => natD (x.getD i 0)) = KM at *
    generalize kD (keyN OW x) = KK at *
    generalize kD x = KX at *
    generalize ruO P = RU at *
    generalize ownD false OW = OE at *
    generalize ownD false szl = SZ at *
    simp [lc1, gk, nin]
  | none =>
    rw [c] at nin
    have mk : memK (kK (keyN OW x)) (P.map fun p => kK p.1) = false := by rw [ruO_memK, c]; rfl
    have put : ∀ ρ : Ev, putO (some (some (ruO P))) 11 (kD (keyN OW x)) (.lst true []) ρ = .nx (ρ.set 11 (some (ruO (P ++ [(keyN OW x, [])])))) := fun ρ => by
      have : ruO (P ++ [(keyN OW x, [])]) = .dcT true ((P.map fun p => kK p.1) ++ [kK (keyN OW x)]) ((P.map fun p => ownD true p.2) ++ [.lst true []]) := by unfold ruO; rw [List.map_append, List.map_append]; rfl
      rw [this]
      exact putO_at keysT_kD mk (by rw [List.length_map]; unfold sizeLine; omega)
    have sz : ∀ i ∈ OW, i < szl.length := fun i hi => by rw [Z.len]; exact wo.lt i hi
    obtain ⟨ρ', lp, g', due, w13, rfl, hb', hdl, hdv, i13'⟩ := loopM (step := stepS (gN 13) l__law_drawn_table_4) (f := natD) (xs := OW) (ρ := [some g, v1, v2, some (ownD false szl), v4, v5, v6, some (kD x), v8, v9, some (ownD false OW), some (ruO (P ++ [(keyN OW x, [])])), some (kD (keyN OW x)), v13, v14, v15, v16, v17, v18, v19, v20])
      (fun j ρ => ∃ (g' : D) (due : List Nat) (w13 : Option D), ρ = [some g', v1, v2, some (ownD false szl), v4, v5, v6, some (kD x), v8, v9, some (ownD false OW), some (ruO (P ++ [(keyN OW x, due)])), some (kD (keyN OW x)), w13, v14, v15, v16, v17, v18, v19, v20] ∧ Bag (k + j) g' ∧ due.length = j ∧ (∀ t, t < j → due.getD t 0 < szl.getD (OW.getD t 0) 0) ∧ immO (some w13) = true)
      ⟨g, [], v13, rfl, hb, rfl, fun t ht => by omega, i13⟩ (by
        rintro j i ρ hj ⟨g', due, w13, rfl, hb', hdl, hdv, _⟩
        have hjl := (List.getElem?_eq_some_iff.mp hj).1
        have him := List.mem_of_getElem? hj
        have hih := wo.lt i him
        obtain ⟨g2, r, hr, hb2, st⟩ := dt4 c (sz i him) (Z.lo i hih) (Z.hi i hih) hb' (by omega) (acc := due) (by omega) (v1 := v1) (v2 := v2) (v4 := v4) (v5 := v5) (v6 := v6) (v7 := some (kD x)) (v8 := v8) (v9 := v9) (v10 := some (ownD false OW)) (v13 := w13) (v14 := v14) (v15 := v15) (v16 := v16) (v17 := v17) (v18 := v18) (v19 := v19) (v20 := v20)
        refine ⟨_, st, g2, due ++ [r], _, rfl, hb2, by simp [hdl], fun t ht => ?_, rfl⟩
        rw [snoc_getD hdl]
        by_cases c2 : t = j
        · rw [if_pos c2, c2, List.getD_eq_getElem?_getD (l := OW), hj]; exact hr
        · rw [if_neg c2]; exact hdv t (by omega))
    refine ⟨g', P ++ [(keyN OW x, due)], due, w13, ?_, hb'.mono (by omega), fun p hp => ?_, by simp, fun z w hz => by rw [lkQ_app, hz], ?_, i13'⟩
    · have h0 : 0 ≤ sizeLine := by decide
      have oi2 := own_items (o := false) (xs := OW)
      unfold natD at oi2
      generalize (OW.map fun i => natD (x.getD i 0)) = KM at *
      generalize kD (keyN OW x) = KK at *
      generalize kD x = KX at *
      generalize ruO P = RU at *
      generalize ruO (P ++ [(keyN OW x, [])]) = RU1 at *
      generalize ownD false OW = OE at *
      generalize ownD false szl = SZ at *
      simp [lc1, gk, nin, h0, put, fK, fo, oi, lp]
    · rcases List.mem_append.mp hp with z | z
      · exact hP p z
      · rw [List.mem_singleton] at z; subst z; exact ⟨hdl, hdv⟩
    · rw [lkQ_app, c]
      show (if keyN OW x = keyN OW x then some due else none) = _
      rw [if_pos rfl]
/-- what a letter's rule tells -/
def RuOk (szl own : List Nat) (rs : List (List Nat)) (P : List (List Nat × List Nat)) : Prop := ∀ x ∈ rs, ∃ due, lkQ P (keyN own x) = some due ∧ Good szl own due
theorem dt6 (H : House h L) {szl : List Nat} (Z : SzOk h szl) {sz : Nat → Nat} {rs : List (List Nat)} (B : Box3 h sz rs) {e : Nat × List Nat} (he : e ∈ L) {Rs : List (List (List Nat × List Nat))} (hRs : Rs.length ≤ 10) {k : Nat} {g : D} (hb : Bag k g) (hk : k < 2 ^ 38)
    {o : Bool} {v1 v2 v5 v6 v7 v9 v10 v11 v12 v13 v14 v15 v16 v17 v18 v19 v20 : Option D} (i13 : immO (some v13) = true) : ∃ (g' : D) (P : List (List Nat × List Nat)) (v7' v11' v12' v13' : Option D),
    stepS (gT 2 (gsC (gN 9) (gsC (gN 10) gsN))) l__law_drawn_table_6 (entD false e) [some g, v1, v2, some (ownD false szl), some (.lst o (rs.map kD)), v5, v6, v7, some (.lst true (Rs.map ruF)), v9, v10, v11, v12, v13, v14, v15, v16, v17, v18, v19, v20]
      = .nx [some g', v1, v2, some (ownD false szl), some (.lst false (rs.map kD)), v5, v6, v7', some (.lst true ((Rs ++ [P]).map ruF)), some (sgD e.1), some (ownD false e.2), v11', v12', v13', v14, v15, v16, v17, v18, v19, v20] ∧ Bag (k + 400) g' ∧ RuOk szl e.2 rs P ∧ immO (some v13') = true := by
  have h4 := H.h4
  have B81 : rs.length ≤ 81 := by
    have : 3 ^ h ≤ 3 ^ 4 := Nat.pow_le_pow_right (by omega) h4
    have := B.len
    omega
  have lx : ∀ x ∈ rs, x.length = h := fun x hx => ((B.mem x).mp hx).1
  obtain ⟨ρ', lp, g1, P, w7, w12, w13, rfl, hb1, hP, hPl, hold, i13'⟩ := loopM (step := stepS (gN 7) l__law_drawn_table_5) (f := kD) (xs := rs) (ρ := [some g, v1, v2, some (ownD false szl), some (.lst false (rs.map kD)), v5, v6, v7, some (.lst true (Rs.map ruF)), some (sgD e.1), some (ownD false e.2), some (ruO []), v12, v13, v14, v15, v16, v17, v18, v19, v20])
    (fun j ρ => ∃ (g1 : D) (P : List (List Nat × List Nat)) (w7 w12 w13 : Option D), ρ = [some g1, v1, v2, some (ownD false szl), some (.lst false (rs.map kD)), v5, v6, w7, some (.lst true (Rs.map ruF)), some (sgD e.1), some (ownD false e.2), some (ruO P), w12, w13, v14, v15, v16, v17, v18, v19, v20] ∧ Bag (k + 4 * j) g1 ∧ (∀ p ∈ P, Good szl e.2 p.2) ∧ P.length ≤ j ∧ (∀ i x, i < j → rs[i]? = some x → ∃ due, lkQ P (keyN e.2 x) = some due) ∧ immO (some w13) = true)
    ⟨g, [], v7, v12, v13, rfl, hb, by simp, by simp, fun i x hi => by omega, i13⟩ (by
      rintro j x ρ hj ⟨g1, P, w7, w12, w13, rfl, hb1, hP, hPl, hold, j13⟩
      have hjl := (List.getElem?_eq_some_iff.mp hj).1
      obtain ⟨g2, P', due, u13, st, hb2, hP', hPl', mono, hd, k13⟩ := dt5 H Z he hP (by omega) (lx x (List.mem_of_getElem? hj)) hb1 (by omega) (v1 := v1) (v2 := v2) (v4 := some (.lst false (rs.map kD))) (v5 := v5) (v6 := v6) (v7 := w7) (v8 := some (.lst true (Rs.map ruF))) (v9 := some (sgD e.1)) (v12 := w12) (v13 := w13) (v14 := v14) (v15 := v15) (v16 := v16) (v17 := v17) (v18 := v18) (v19 := v19) (v20 := v20) j13
      refine ⟨_, st, g2, P', _, _, u13, rfl, hb2.mono (by omega), hP', by omega, fun i y hi hy => ?_, k13⟩
      by_cases c : i = j
      · subst c; rw [hj] at hy; cases hy; exact ⟨due, hd⟩
      · obtain ⟨d2, h2⟩ := hold i y (by omega) hy
        exact ⟨d2, mono _ _ h2⟩)
  refine ⟨g1, P, w7, some (ruF P), w12, w13, ?_, hb1.mono (by omega), fun x hx => ?_, i13'⟩
  · have gt' : gT 2 (gsC (gN 9) (gsC (gN 10) gsN)) (entD false e) [some g, v1, v2, some (ownD false szl), some (.lst o (rs.map kD)), v5, v6, v7, some (.lst true (Rs.map ruF)), v9, v10, v11, v12, v13, v14, v15, v16, v17, v18, v19, v20] = some [some g, v1, v2, some (ownD false szl), some (.lst o (rs.map kD)), v5, v6, v7, some (.lst true (Rs.map ruF)), some (sgD e.1), some (ownD false e.2), v11, v12, v13, v14, v15, v16, v17, v18, v19, v20] := by unfold entD; simp; rfl
    have fR : frz (.lst o (rs.map kD)) = .lst false (rs.map kD) := by rw [frz_lst, frzs_kD]
    have it : itemsL (.lst false (rs.map kD)) = some (rs.map kD) := by rw [items_l, frzs_kD]
    have e0 : D.dcT true [] [] = ruO [] := rfl
    have fP := frz_ru (P := P)
    have ls : (Rs.map ruF).length < sizeLine := by rw [List.length_map]; unfold sizeLine; omega
    have em : (Rs ++ [P]).map ruF = Rs.map ruF ++ [ruF P] := by rw [List.map_append]; rfl
    rw [ap_step, gt', tgR_s, em]; unfold l__law_drawn_table_6
    generalize D.lst o (rs.map kD) = RS at *
    generalize D.lst false (rs.map kD) = RF at *
    generalize rs.map kD = RX at *
    generalize Rs.map ruF = RR at *
    generalize ruF P = PF at *
    generalize ruO P = PO at *
    generalize ownD false e.2 = OE at *
    generalize ownD false szl = SZ at *
    simp [e0, fR, it, lp, fP, ls]
  · obtain ⟨i, hi⟩ := List.getElem?_of_mem hx
    obtain ⟨due, hd⟩ := hold i x (List.getElem?_eq_some_iff.mp hi).1 hi
    obtain ⟨p, hp, _, e2⟩ := lkQ_mem hd
    exact ⟨due, hd, e2 ▸ hP p hp⟩
def beP (h : Nat) (own due x : List Nat) (t : Nat) : List Nat := (List.range h).map fun i => if own.idxOf i < t then due.getD (own.idxOf i) 0 else x.getD i 0
theorem beP_len {h t : Nat} {own due x : List Nat} : (beP h own due x t).length = h := by unfold beP; rw [List.length_map, List.length_range]
theorem beP_at {h t i : Nat} {own due x : List Nat} (hi : i < h) : (beP h own due x t).getD i 0 = if own.idxOf i < t then due.getD (own.idxOf i) 0 else x.getD i 0 := by
  unfold beP
  rw [List.getD_eq_getElem?_getD, List.getElem?_map, List.getElem?_range hi]; rfl
theorem beP_zero {h : Nat} {own due x : List Nat} (hx : x.length = h) : beP h own due x 0 = x := ext_getD beP_len hx fun i hi => by rw [beP_at hi, if_neg (by omega)]
theorem idx_at {own : List Nat} (nd : own.Nodup) {t : Nat} (ht : t < own.length) : own.idxOf (own.getD t 0) = t := by
  rw [List.getD_eq_getElem?_getD, List.getElem?_eq_getElem ht]
  exact nd.idxOf_getElem t ht
theorem beP_step {h t : Nat} {own due x : List Nat} (nd : own.Nodup) (lt : ∀ i ∈ own, i < h) (ht : t < own.length) : (beP h own due x t).set (own.getD t 0) (due.getD t 0) = beP h own due x (t + 1) := by
  refine ext_getD (by rw [List.length_set]; exact beP_len) beP_len fun i hi => ?_
  have hm : own.getD t 0 ∈ own := by rw [List.getD_eq_getElem?_getD, List.getElem?_eq_getElem ht]; exact List.getElem_mem ht
  have hl := lt _ hm
  rw [beP_at hi]
  by_cases c : i = own.getD t 0
  · rw [c, idx_at nd ht, if_pos (by omega), List.getD_eq_getElem?_getD, List.getElem?_set_self (by rw [beP_len]; exact hl)]; rfl
  · rw [List.getD_eq_getElem?_getD, List.getElem?_set_ne (fun z => c z.symm), ← List.getD_eq_getElem?_getD, beP_at hi]
    have : own.idxOf i ≠ t := fun z => by
      have hil : own.idxOf i < own.length := by omega
      have := List.getElem_idxOf hil
      apply c
      rw [List.getD_eq_getElem?_getD, ← z, List.getElem?_eq_getElem hil, this]; rfl
    by_cases c2 : own.idxOf i < t
    · rw [if_pos c2, if_pos (by omega)]
    · rw [if_neg c2, if_neg (by omega)]
theorem dt1 {h : Nat} {own due x : List Nat} (nd : own.Nodup) (lt : ∀ i ∈ own, i < h) {v0 v1 v2 v3 v4 v5 v6 v7 v8 v9 v10 v11 v12 v13 v14 v15 v16 v17 v19 v20 : Option D} (hx : x.length = h) (ld : due.length = own.length) (i13 : immO (some v13) = true) : ∃ v13' v20',
    loopS (stepS (gT 2 (gsC (gN 13) (gsC (gN 20) gsN))) l__law_drawn_table_1) ((List.range own.length).map fun t => D.tup [natD (own.getD t 0), natD (due.getD t 0)]) [v0, v1, v2, v3, v4, v5, v6, v7, v8, v9, v10, v11, v12, v13, v14, v15, v16, v17, some (ownD true x), v19, v20]
      = .nx [v0, v1, v2, v3, v4, v5, v6, v7, v8, v9, v10, v11, v12, v13', v14, v15, v16, v17, some (ownD true (beP h own due x own.length)), v19, v20'] ∧ immO (some v13') = true := by
  obtain ⟨ρ', lp, v13', v20', rfl, i13'⟩ := loopM (step := stepS (gT 2 (gsC (gN 13) (gsC (gN 20) gsN))) l__law_drawn_table_1) (f := fun t => D.tup [natD (own.getD t 0), natD (due.getD t 0)]) (xs := List.range own.length) (ρ := [v0, v1, v2, v3, v4, v5, v6, v7, v8, v9, v10, v11, v12, v13, v14, v15, v16, v17, some (ownD true x), v19, v20])
    (fun t ρ => ∃ v13 v20 : Option D, ρ = [v0, v1, v2, v3, v4, v5, v6, v7, v8, v9, v10, v11, v12, v13, v14, v15, v16, v17, some (ownD true (beP h own due x t)), v19, v20] ∧ immO (some v13) = true)
    ⟨v13, v20, by rw [beP_zero hx], i13⟩ (by
      rintro t s ρ hj ⟨w13, w20, rfl, _⟩
      have ht : t < own.length := by have := (List.getElem?_eq_some_iff.mp hj).1; simpa using this
      rw [List.getElem?_range ht] at hj; cases hj
      have hm : own.getD t 0 ∈ own := by rw [List.getD_eq_getElem?_getD, List.getElem?_eq_getElem ht]; exact List.getElem_mem ht
      have hl := lt _ hm
      have bs := beP_step (due := due) (x := x) nd lt ht
      refine ⟨[v0, v1, v2, v3, v4, v5, v6, v7, v8, v9, v10, v11, v12, some (natD (own.getD t 0)), v14, v15, v16, v17, some (ownD true (beP h own due x (t + 1))), v19, some (natD (due.getD t 0))], ?_, _, _, rfl, rfl⟩
      have st : setS (some (some (ownD true (beP h own due x t)))) 18 (natD (due.getD t 0)) (natD (own.getD t 0)) [v0, v1, v2, v3, v4, v5, v6, v7, v8, v9, v10, v11, v12, some (natD (own.getD t 0)), v14, v15, v16, v17, some (ownD true (beP h own due x t)), v19, some (natD (due.getD t 0))]
          = .nx [v0, v1, v2, v3, v4, v5, v6, v7, v8, v9, v10, v11, v12, some (natD (own.getD t 0)), v14, v15, v16, v17, some (ownD true (beP h own due x (t + 1))), v19, some (natD (due.getD t 0))] := by
        rw [← bs]
        unfold ownD
        have e6 : natD (own.getD t 0) = .int (own.getD t 0 : Int) := rfl
        rw [e6, setS_n (by rw [List.length_map, beP_len]; exact hl), List.map_set]; rfl
      have n1 : frz (natD (due.getD t 0)) = natD (due.getD t 0) := rfl
      have n2 : frz (natD (own.getD t 0)) = natD (own.getD t 0) := rfl
      rw [ap_step]; unfold l__law_drawn_table_1
      generalize ownD true (beP h own due x (t + 1)) = B2 at *
      generalize ownD true (beP h own due x t) = B1 at *
      generalize natD (due.getD t 0) = DD at *
      generalize natD (own.getD t 0) = OO at *
      simp [n1, n2, st])
  rw [List.length_range] at *
  exact ⟨v13', v20', lp, i13'⟩
theorem line_range {l : List Nat} {m : Nat} (hl : l.length = m) : l.map natD = (List.range m).map fun k => natD (l.getD k 0) := by
  apply List.ext_getElem?
  intro i
  rw [List.getElem?_map, List.getElem?_map]
  by_cases hi : i < m
  · rw [List.getElem?_range hi, List.getElem?_eq_getElem (by omega)]
    simp [List.getD_eq_getElem?_getD, List.getElem?_eq_getElem (show i < l.length by omega)]
  · rw [List.getElem?_eq_none (by omega), List.getElem?_eq_none (by simp; omega)]; rfl
theorem zip_maps {α : Type} {a b : α → D} : ∀ xs : List α, zipD (xs.map a) (xs.map b) = xs.map fun x => .tup [a x, b x]
  | [] => rfl
  | x :: xs => by rw [List.map_cons, List.map_cons, zipD, zip_maps xs]; rfl
/-- a letter's memories behind -/
def becD (h : Nat) (own : List Nat) (P : List (List Nat × List Nat)) (x : List Nat) : List Nat := beP h own ((lkQ P (keyN own x)).getD []) x own.length
theorem dt2 (H : House h L) {szl : List Nat} (Z : SzOk h szl) {rs : List (List Nat)} (B : Box3 h (fun i => szl.getD i 0) rs) {e : Nat × List Nat} (he : e ∈ L) {Rs : List (List (List Nat × List Nat))} {k : Nat} {P : List (List Nat × List Nat)} (hk : Rs[k]? = some P) (hR : RuOk szl e.2 rs P) {x : List Nat} (hx : x ∈ rs) {fs : List Nat} (hfs : fs.length ≤ 10)
    {o : Bool} {v0 v1 v2 v3 v5 v6 v9 v10 v11 v12 v13 v14 v15 v17 v18 v19 v20 : Option D} (i13 : immO (some v13) = true) (rnd : rs.Nodup) :
    becD h e.2 P x ∈ rs ∧ ∃ v13' v18' v19' v20' : Option D, stepS (gT 2 (gsC (gN 17) (gsC (gT 2 (gsC (gN 9) (gsC (gN 10) gsN))) gsN))) l__law_drawn_table_2 (.tup [.int (k : Int), entD false e]) [v0, v1, v2, v3, some (.lst o (rs.map kD)), v5, v6, some (kD x), some (.lst true (Rs.map ruF)), v9, v10, v11, v12, v13, v14, v15, some (ownD true fs), v17, v18, v19, v20]
      = .nx [v0, v1, v2, v3, some (.lst false (rs.map kD)), v5, v6, some (kD x), some (.lst true (Rs.map ruF)), some (sgD e.1), some (ownD false e.2), v11, v12, v13', v14, v15, some (ownD true (fs ++ [rs.idxOf (becD h e.2 P x)])), some (.int (k : Int)), v18', v19', v20'] ∧ immO (some v13') = true := by
  have h4 := H.h4
  have wo := H.own e he
  have few := rise_len e.2 0 h wo.rise fun x hx => ⟨by omega, wo.lt x hx⟩
  have lx : x.length = h := ((B.mem x).mp hx).1
  obtain ⟨due, hd, gd⟩ := hR x hx
  have nd : e.2.Nodup := List.nodup_iff_pairwise_ne.mpr (wo.rise.imp fun hab => Nat.ne_of_lt hab)
  have eB : becD h e.2 P x = beP h e.2 due x e.2.length := by unfold becD; rw [hd]; rfl
  rw [eB]
  have hm : beP h e.2 due x e.2.length ∈ rs := (B.mem _).mpr ⟨beP_len, fun i hi => by
    rw [beP_at hi]
    by_cases c : e.2.idxOf i < e.2.length
    · rw [if_pos c]
      have := gd.2 _ c
      have ei : e.2.getD (e.2.idxOf i) 0 = i := by
        rw [List.getD_eq_getElem?_getD, List.getElem?_eq_getElem c, List.getElem_idxOf c]; rfl
      rwa [ei] at this
    · rw [if_neg c]; exact ((B.mem x).mp hx).2 i hi⟩
  refine ⟨hm, ?_⟩
  have gr := ruF_ix hd
  have pk : gIx (.lst true (Rs.map ruF)) (.int (k : Int)) = some (ruF P) := by rw [ix_l, at_nat, List.getElem?_map, hk]; rfl
  obtain ⟨OW, hOW⟩ : ∃ OW, OW = e.2 := ⟨_, rfl⟩
  have lt : ∀ i ∈ e.2, i < h := wo.lt
  rw [← hOW] at few gd nd eB hm gr lt ⊢
  have oi := own_items (o := false) (xs := OW)
  have fo : frz (ownD false OW) = ownD false OW := frz_own
  have gl : gList [kD x] = some (ownD true x) := by
    show (if isImms (x.map natD) = true then some (D.lst true (x.map natD)) else none) = _
    rw [if_pos (imms_map fun _ _ => rfl)]; rfl
  have lc1 : ∀ v18 v19, fLc (fIt itemsL (fVar 10)) (gN 13) fYes (fI (vOp2 gIx (vVar 7) (vVar 13))) [13] [v0, v1, v2, v3, some (.lst o (rs.map kD)), v5, v6, some (kD x), some (.lst true (Rs.map ruF)), some (sgD e.1), some (ownD false OW), v11, v12, v13, v14, v15, some (ownD true fs), some (.int (k : Int)), v18, v19, v20]
      = .ok (.lst true (OW.map fun i => natD (x.getD i 0))) [v0, v1, v2, v3, some (.lst o (rs.map kD)), v5, v6, some (kD x), some (.lst true (Rs.map ruF)), some (sgD e.1), some (ownD false OW), v11, v12, v13, v14, v15, some (ownD true fs), some (.int (k : Int)), v18, v19, v20] := fun v18 v19 => by
    refine lc_all (g := natD) (by simp [fo, oi]) (by simp [i13]) (by unfold sizeLine; omega) fun i hi => ?_
    have ka := kD_at (x := x) (i := i) (by rw [lx]; exact lt i hi)
    generalize kD x = KX at *
    generalize ownD false OW = OE at *
    generalize ownD true fs = FS at *
    generalize D.lst o (rs.map kD) = RS at *
    generalize D.lst true (Rs.map ruF) = RR at *
    exact ⟨[v0, v1, v2, v3, some RS, v5, v6, some KX, some RR, some (sgD e.1), some OE, v11, v12, some (.int (i : Int)), v14, v15, some FS, some (.int (k : Int)), v18, v19, v20], by simp [natD], [v0, v1, v2, v3, some RS, v5, v6, some KX, some RR, some (sgD e.1), some OE, v11, v12, some (.int (i : Int)), v14, v15, some FS, some (.int (k : Int)), v18, v19, v20], by simp [ka, natD], by simp⟩
  have gk : gTuple [.lst true (OW.map fun i => natD (x.getD i 0))] = some (kD (keyN OW x)) := by
    show (if _ then _ else _) = _
    rw [if_pos (imms_map fun _ _ => rfl)]
    unfold kD keyN
    rw [List.map_map]; rfl
  have gI : gIxI (ruF P) (kD (keyN OW x)) = some (ownD false due) := ixI_of gr imm_own
  have iP := imm_ruF (P := P)
  have z1 : zipL [ownD false OW, ownD false due] = some ((List.range OW.length).map fun t => D.tup [natD (OW.getD t 0), natD (due.getD t 0)]) := by
    unfold zipL
    dsimp only
    rw [oi, Option.bind_some, own_items, Option.map_some, line_range rfl, line_range gd.1, zip_maps]
  have fd : frz (ownD false due) = ownD false due := frz_own
  have fX := frz_kD (x := x)
  obtain ⟨w13, w20, lp, j13⟩ := dt1 nd lt (x := x) lx gd.1 i13 (v0 := v0) (v1 := v1) (v2 := v2) (v3 := v3) (v4 := some (.lst o (rs.map kD))) (v5 := v5) (v6 := v6) (v7 := some (kD x)) (v8 := some (.lst true (Rs.map ruF))) (v9 := some (sgD e.1)) (v10 := some (ownD false OW)) (v11 := v11) (v12 := v12) (v14 := v14) (v15 := v15) (v16 := some (ownD true fs)) (v17 := some (.int (k : Int))) (v19 := some (ownD false due)) (v20 := v20)
  have gt : gTuple [ownD true (beP h OW due x OW.length)] = some (kD (beP h OW due x OW.length)) := by
    show (if isImms ((beP h OW due x OW.length).map natD) = true then _ else _) = _
    rw [if_pos (imms_map fun _ _ => rfl)]; rfl
  have ix : gIndex (.lst false (rs.map kD)) [kD (beP h OW due x OW.length)] = some (.int (rs.idxOf (beP h OW due x OW.length) : Int)) := by
    have il := List.idxOf_lt_length_of_mem hm
    exact idx_map eqd_kD (fun _ _ => sh_kD) (by rw [List.getElem?_eq_getElem il, List.getElem_idxOf il]) rnd
  have isl : isL (.lst false (rs.map kD)) = true := rfl
  have fR : frz (.lst o (rs.map kD)) = .lst false (rs.map kD) := by rw [frz_lst, frzs_kD]
  have iKB := imm_kD (x := beP h OW due x OW.length)
  have eo : ∀ (xs : List Nat) (q : Nat), ownD true (xs ++ [q]) = .lst true (xs.map natD ++ [.int (q : Int)]) := fun xs q => by unfold ownD; rw [List.map_append]; rfl
  have ap : ∀ ρ : Ev, appS (some (some (ownD true fs))) 16 (.int (rs.idxOf (beP h OW due x OW.length) : Int)) ρ = .nx (ρ.set 16 (some (ownD true (fs ++ [rs.idxOf (beP h OW due x OW.length)])))) := fun ρ => by
    rw [eo]
    unfold ownD
    rw [appS_s, if_pos (by rw [List.length_map]; unfold sizeLine; omega)]
  have isLs' : ∀ kk : RS, isLs (some (some (ownD true fs))) kk = kk := fun _ => rfl
  have gt' : gT 2 (gsC (gN 17) (gsC (gT 2 (gsC (gN 9) (gsC (gN 10) gsN))) gsN)) (.tup [.int (k : Int), entD false e]) [v0, v1, v2, v3, some (.lst o (rs.map kD)), v5, v6, some (kD x), some (.lst true (Rs.map ruF)), v9, v10, v11, v12, v13, v14, v15, some (ownD true fs), v17, v18, v19, v20]
      = some [v0, v1, v2, v3, some (.lst o (rs.map kD)), v5, v6, some (kD x), some (.lst true (Rs.map ruF)), some (sgD e.1), some (ownD false OW), v11, v12, v13, v14, v15, some (ownD true fs), some (.int (k : Int)), v18, v19, v20] := by
    have e2 : entD false e = .tup [sgD e.1, ownD false OW] := by rw [hOW]; rfl
    rw [e2]; simp
  refine ⟨w13, some (ownD true (beP h OW due x OW.length)), some (ownD false due), w20, ?_, j13⟩
  rw [ap_step, gt', tgR_s]; unfold l__law_drawn_table_2
  generalize (OW.map fun i => natD (x.getD i 0)) = KM at *
  generalize (List.range OW.length).map (fun t => D.tup [natD (OW.getD t 0), natD (due.getD t 0)]) = ZZ at *
  generalize rs.idxOf (beP h OW due x OW.length) = q at *
  generalize ownD true (fs ++ [q]) = F2 at *
  generalize kD (beP h OW due x OW.length) = KB at *
  generalize ownD true (beP h OW due x OW.length) = OB at *
  generalize kD (keyN OW x) = KK at *
  generalize kD x = KX at *
  generalize ownD true x = OX at *
  generalize ownD false OW = OE at *
  generalize ownD false due = DU at *
  generalize ownD true fs = FS at *
  generalize ruF P = RP at *
  generalize D.lst true (Rs.map ruF) = RR at *
  generalize D.lst o (rs.map kD) = RS at *
  generalize D.lst false (rs.map kD) = RF at *
  simp [-ix_l, -ix_t, gl, fX, pk, iP, lc1, gk, gI, fo, fd, z1, lp, fR, isl, gt, ix, ap, isLs']
theorem enum_map {α : Type} {f : α → D} (d0 : α) : ∀ (xs : List α) (i : Nat), enumD i (xs.map f) = (List.range xs.length).map fun k => .tup [.int ((i + k : Nat) : Int), f (xs.getD k d0)]
  | [], _ => rfl
  | x :: xs, i => by
    rw [List.map_cons, enumD, enum_map d0 xs (i + 1), List.length_cons, List.range_succ_eq_map, List.map_cons, List.map_map]
    congr 1
    refine List.map_congr_left fun k _ => ?_
    show D.tup [.int ((i + 1 + k : Nat) : Int), _] = .tup [.int ((i + (k + 1) : Nat) : Int), _]
    rw [Nat.add_assoc, Nat.add_comm 1 k]; rfl
theorem sl_to {o : Bool} {xs : List D} (i : isImms xs = true) {p : Nat} : gSl (.lst o xs) none (some (p : Int)) = some (.lst true (xs.take p)) := by
  unfold gSl
  dsimp only
  rw [if_pos i]
  unfold Hap.cutD
  rw [HT.sIx_none, HT.sIx_nat, List.drop_zero, Nat.sub_zero]
  congr 2
  rcases Nat.le_total p xs.length with h | h
  · rw [Nat.min_eq_left h]
  · rw [Nat.min_eq_right h, List.take_length, List.take_of_length_le h]
theorem sl_from {o : Bool} {xs : List D} (i : isImms xs = true) {p : Nat} (hp : p ≤ xs.length) : gSl (.lst o xs) (some (p : Int)) none = some (.lst true (xs.drop p)) := by
  unfold gSl
  dsimp only
  rw [if_pos i]
  unfold Hap.cutD
  rw [HT.sIx_none, HT.sIx_nat, Nat.min_eq_left hp, List.take_of_length_le (by rw [List.length_drop]; omega)]
abbrev Ent := List Nat × Bool × List Nat
def entT (e : Ent) : D := .tup [kD e.1, .bl e.2.1, kD e.2.2]
@[simp] theorem frz_entT {e : Ent} : frz (entT e) = entT e := by unfold entT; simp
theorem imm_entT {e : Ent} : isImm (entT e) = true := by unfold entT; simp
def folL (h : Nat) (L : List (Nat × List Nat)) (rs : List (List Nat)) (Rs : List (List (List Nat × List Nat))) (x : List Nat) (m : Nat) : List Nat := (List.range m).map fun k => rs.idxOf (becD h (L.getD k (0, [])).2 (Rs.getD k []) x)
theorem dt3 (H : House h L) {szl : List Nat} (Z : SzOk h szl) {rs : List (List Nat)} (B : Box3 h (fun i => szl.getD i 0) rs) {Rs : List (List (List Nat × List Nat))} (hRl : Rs.length = L.length) (hR : ∀ (k : Nat) (e : Nat × List Nat) (P : List (List Nat × List Nat)), L[k]? = some e → Rs[k]? = some P → RuOk szl e.2 rs P) {x : List Nat} (hx : x ∈ rs) {T : List Ent} (hT : T.length ≤ 100) {k0 : Nat} {g : D} (hb : Bag k0 g) (hk0 : k0 < 2 ^ 40)
    {o : Bool} {v2 v3 v5 v6 v7 v9 v10 v11 v12 v13 v14 v16 v17 v18 v19 v20 : Option D} (i13 : immO (some v13) = true) : ∃ (g' : D) (b : Bool) (v9' v10' v13' v16' v17' v18' v19' v20' : Option D),
    stepS (gN 7) l__law_drawn_table_3 (kD x) [some g, some (houD false h L), v2, v3, some (.lst o (rs.map kD)), v5, v6, v7, some (.lst true (Rs.map ruF)), v9, v10, v11, v12, v13, v14, some (.lst true (T.map entT)), v16, v17, v18, v19, v20]
      = .nx [some g', some (houD false h L), v2, v3, some (.lst false (rs.map kD)), v5, v6, some (kD x), some (.lst true (Rs.map ruF)), v9', v10', v11, v12, v13', v14, some (.lst true ((T ++ [(x, b, folL h L rs Rs x L.length)]).map entT)), v16', v17', v18', v19', v20'] ∧ Bag (k0 + 1) g' ∧ immO (some v13') = true := by
  have l6 := H.l6
  have l1 := H.l1
  obtain ⟨ρ', lp, o', w9, w10, w13, w17, w18, w19, w20, rfl, j13, ho'⟩ := loopM (step := stepS (gT 2 (gsC (gN 17) (gsC (gT 2 (gsC (gN 9) (gsC (gN 10) gsN))) gsN))) l__law_drawn_table_2) (f := fun k : Nat => D.tup [.int (k : Int), entD false (L.getD k (0, []))]) (xs := List.range L.length) (ρ := [some g, some (houD false h L), v2, v3, some (.lst o (rs.map kD)), v5, v6, some (kD x), some (.lst true (Rs.map ruF)), v9, v10, v11, v12, v13, v14, some (.lst true (T.map entT)), some (ownD true (folL h L rs Rs x 0)), v17, v18, v19, v20])
    (fun j ρ => ∃ (o' : Bool) (w9 w10 w13 w17 w18 w19 w20 : Option D), ρ = [some g, some (houD false h L), v2, v3, some (.lst o' (rs.map kD)), v5, v6, some (kD x), some (.lst true (Rs.map ruF)), w9, w10, v11, v12, w13, v14, some (.lst true (T.map entT)), some (ownD true (folL h L rs Rs x j)), w17, w18, w19, w20] ∧ immO (some w13) = true ∧ (0 < j → o' = false))
    ⟨o, v9, v10, v13, v17, v18, v19, v20, rfl, i13, fun z => by omega⟩ (by
      rintro j k ρ hj ⟨o', w9, w10, w13, w17, w18, w19, w20, rfl, j13, _⟩
      have hjl : j < L.length := by have := (List.getElem?_eq_some_iff.mp hj).1; simpa using this
      rw [List.getElem?_range hjl] at hj; cases hj
      have ej : L.getD j (0, []) = L[j] := by rw [List.getD_eq_getElem?_getD, List.getElem?_eq_getElem hjl]; rfl
      have hRj : Rs[j]? = some (Rs.getD j []) := by rw [List.getD_eq_getElem?_getD, List.getElem?_eq_getElem (by omega)]; rfl
      obtain ⟨_, u13, u18, u19, u20, st, k13⟩ := dt2 H Z B (List.getElem_mem hjl) hRj (hR j _ _ (List.getElem?_eq_getElem hjl) hRj) hx (fs := folL h L rs Rs x j) (by unfold folL; rw [List.length_map, List.length_range]; omega) (o := o') (v0 := some g) (v1 := some (houD false h L)) (v2 := v2) (v3 := v3) (v5 := v5) (v6 := v6) (v9 := w9) (v10 := w10) (v11 := v11) (v12 := v12) (v14 := v14) (v15 := some (.lst true (T.map entT))) (v17 := w17) (v18 := w18) (v19 := w19) (v20 := w20) j13 B.nodup
      have ef : folL h L rs Rs x (j + 1) = folL h L rs Rs x j ++ [rs.idxOf (becD h L[j].2 (Rs.getD j []) x)] := by
        unfold folL
        rw [List.range_succ, List.map_append, List.map_cons, List.map_nil, ej]
      rw [ej, ef]
      exact ⟨_, st, false, _, _, u13, _, u18, u19, u20, rfl, k13, fun _ => rfl⟩)
  rw [List.length_range] at *
  have ho := ho' (by omega)
  subst ho
  obtain ⟨r, g1, hr, hb1, t1⟩ := take_spec (m := 2) hb (by omega) (by omega) (by omega)
  have en : enumL [.lst false (L.map (entD false))] = some ((List.range L.length).map fun k : Nat => D.tup [.int (k : Int), entD false (L.getD k (0, []))]) := by
    have : enumL [.lst false (L.map (entD false))] = some (enumD 0 (L.map (entD false))) := by
      unfold enumL
      dsimp only
      rw [items_l, frzs_mapf (f := entD false) (g := entD false) fun _ _ => by unfold entD; simp [frz_own], Option.map_some]
    rw [this, enum_map (f := entD false) (0, [])]
    congr 1
    refine List.map_congr_left fun k _ => ?_
    rw [Nat.zero_add]
  have ie : isImm (.lst false (L.map (entD false))) = true := by rw [imm_lstI]; exact imms_map fun _ _ => imm_ent
  have hix : gIx (houD false h L) (.int 1) = some (.lst false (L.map (entD false))) := hou_ix1
  have h0 : 0 ≤ sizeLine := by decide
  have h3 : 3 ≤ sizeLine := by decide
  have gt : gTuple [ownD true (folL h L rs Rs x L.length)] = some (kD (folL h L rs Rs x L.length)) := by
    show (if isImms ((folL h L rs Rs x L.length).map natD) = true then _ else _) = _
    rw [if_pos (imms_map fun _ _ => rfl)]; rfl
  have iX := imm_kD (x := x)
  have fX := frz_kD (x := x)
  have lT : (T.map entT).length < sizeLine := by rw [List.length_map]; unfold sizeLine; omega
  have e0 : D.lst true [] = ownD true (folL h L rs Rs x 0) := rfl
  refine ⟨g1, decide ((r : Int) = 1), w9, w10, w13, some (ownD true (folL h L rs Rs x L.length)), w17, w18, w19, w20, ?_, hb1, j13⟩
  have em : (T ++ [(x, decide ((r : Int) = 1), folL h L rs Rs x L.length)]).map entT = T.map entT ++ [.tup [kD x, .bl (decide ((r : Int) = 1)), kD (folL h L rs Rs x L.length)]] := by rw [List.map_append]; rfl
  rw [ap_step, em]; unfold l__law_drawn_table_3
  generalize (fun k : Nat => D.tup [.int (k : Int), entD false (L.getD k (0, []))]) = EE at *
  generalize kD (folL h L rs Rs x L.length) = KF at *
  generalize ownD true (folL h L rs Rs x L.length) = OF at *
  generalize ownD true (folL h L rs Rs x 0) = O0 at *
  generalize kD x = KX at *
  generalize T.map entT = TT' at *
  generalize D.lst true (Rs.map ruF) = RR at *
  generalize D.lst o (rs.map kD) = RS at *
  generalize D.lst false (rs.map kD) = RF at *
  generalize D.lst false (L.map (entD false)) = LE at *
  generalize houD false h L = HH at *
  simp [-ix_t, h0, h3, e0, hix, ie, en, lp, t1, gt, fX, lT]
/-- what a table is -/
def bhT (T : List Ent) (e : Ent) (k : Nat) : List Nat := (T.getD (e.2.2.getD k 0) ([], false, [])).1
structure Tab (h : Nat) (L : List (Nat × List Nat)) (T : List Ent) : Prop where
  n1 : 1 ≤ T.length
  n600 : T.length ≤ 600
  ml : ∀ e ∈ T, e.1.length = h
  fl : ∀ e ∈ T, e.2.2.length = L.length
  flt : ∀ e ∈ T, ∀ x ∈ e.2.2, x < T.length
  nd : (T.map (·.1)).Nodup
  stay : ∀ e ∈ T, ∀ k, k < L.length → ∀ i, i < h → i ∉ (L.getD k (0, [])).2 → (bhT T e k).getD i 0 = e.1.getD i 0
  same : ∀ e ∈ T, ∀ e' ∈ T, ∀ k, k < L.length → keyN (L.getD k (0, [])).2 e.1 = keyN (L.getD k (0, [])).2 e'.1 → keyN (L.getD k (0, [])).2 (bhT T e k) = keyN (L.getD k (0, [])).2 (bhT T e' k)
theorem drawn_tab (H : House h L) {szl : List Nat} {rs : List (List Nat)} (B : Box3 h (fun i => szl.getD i 0) rs) {Rs : List (List (List Nat × List Nat))} (hR : ∀ (k : Nat) (e : Nat × List Nat) (P : List (List Nat × List Nat)), L[k]? = some e → Rs[k]? = some P → RuOk szl e.2 rs P) (hRl : Rs.length = L.length)
    {T : List Ent} (h1 : T.map (·.1) = rs) (h2 : ∀ e ∈ T, e.2.2 = folL h L rs Rs e.1 L.length) : Tab h L T ∧ T.length ≤ 81 := by
  have h4 := H.h4
  have tl : T.length = rs.length := by rw [← h1, List.length_map]
  have B81 : rs.length ≤ 81 := by
    have : 3 ^ h ≤ 3 ^ 4 := Nat.pow_le_pow_right (by omega) h4
    have := B.len
    omega
  have mem1 : ∀ e ∈ T, e.1 ∈ rs := fun e he => by rw [← h1]; exact List.mem_map.mpr ⟨e, he, rfl⟩
  have bec : ∀ x ∈ rs, ∀ k, k < L.length → becD h (L.getD k (0, [])).2 (Rs.getD k []) x ∈ rs := fun x hx k hk => by
    have ek : L[k]? = some (L.getD k (0, [])) := by rw [List.getD_eq_getElem?_getD, List.getElem?_eq_getElem hk]; rfl
    have eR : Rs[k]? = some (Rs.getD k []) := by rw [List.getD_eq_getElem?_getD, List.getElem?_eq_getElem (by omega)]; rfl
    obtain ⟨due, hd, gd⟩ := hR k _ _ ek eR x hx
    unfold becD
    rw [hd]
    show beP h _ due x _ ∈ rs
    refine (B.mem _).mpr ⟨beP_len, fun i hi => ?_⟩
    rw [beP_at hi]
    generalize (L.getD k (0, [])).2 = ow at *
    by_cases c : ow.idxOf i < ow.length
    · rw [if_pos c]
      have := gd.2 _ c
      have ei : ow.getD (ow.idxOf i) 0 = i := by
        rw [List.getD_eq_getElem?_getD, List.getElem?_eq_getElem c, List.getElem_idxOf c]; rfl
      rwa [ei] at this
    · rw [if_neg c]; exact ((B.mem x).mp hx).2 i hi
  have fk : ∀ e ∈ T, ∀ k, k < L.length → e.2.2.getD k 0 = rs.idxOf (becD h (L.getD k (0, [])).2 (Rs.getD k []) e.1) := fun e he k hk => by
    rw [h2 e he]
    unfold folL
    rw [List.getD_eq_getElem?_getD, List.getElem?_map, List.getElem?_range hk]; rfl
  have bh : ∀ e ∈ T, ∀ k, k < L.length → bhT T e k = becD h (L.getD k (0, [])).2 (Rs.getD k []) e.1 := fun e he k hk => by
    have hm := bec _ (mem1 e he) k hk
    unfold bhT
    rw [fk e he k hk]
    have il := List.idxOf_lt_length_of_mem hm
    generalize becD h (L.getD k (0, [])).2 (Rs.getD k []) e.1 = z at *
    have e1 : (T.map (·.1))[rs.idxOf z]? = some z := by rw [h1, List.getElem?_eq_getElem il, List.getElem_idxOf il]
    rw [List.getElem?_map] at e1
    rw [List.getD_eq_getElem?_getD]
    cases e2 : T[rs.idxOf z]? with
    | none => rw [e2] at e1; cases e1
    | some w => rw [e2] at e1; exact Option.some.inj e1
  refine ⟨⟨by have := B.ne; omega, by omega, fun e he => ((B.mem _).mp (mem1 e he)).1, fun e he => by rw [h2 e he]; unfold folL; rw [List.length_map, List.length_range], fun e he x hx => ?_, by rw [h1]; exact B.nodup, fun e he k hk i hi hn => ?_, fun e he e' he' k hk hkey => ?_⟩, by omega⟩
  · rw [h2 e he] at hx
    unfold folL at hx
    obtain ⟨k, hk, rfl⟩ := List.mem_map.mp hx
    rw [tl]
    exact List.idxOf_lt_length_of_mem (bec _ (mem1 e he) k (List.mem_range.mp hk))
  · rw [bh e he k hk]
    unfold becD
    rw [beP_at hi, if_neg fun z => hn (List.idxOf_lt_length_iff.mp z)]
  · rw [bh e he k hk, bh e' he' k hk]
    have wo : ∀ i ∈ (L.getD k (0, [])).2, i < h := by
      have ek : L.getD k (0, []) = L[k] := by rw [List.getD_eq_getElem?_getD, List.getElem?_eq_getElem hk]; rfl
      rw [ek]; exact (H.own _ (List.getElem_mem hk)).lt
    generalize (L.getD k (0, [])).2 = ow at *
    unfold keyN
    refine List.map_congr_left fun i hi => ?_
    unfold becD
    rw [beP_at (wo i hi), beP_at (wo i hi), if_pos (List.idxOf_lt_length_iff.mpr hi), if_pos (List.idxOf_lt_length_iff.mpr hi), hkey]
theorem rot_box {h : Nat} {sz : Nat → Nat} {rs : List (List Nat)} (B : Box3 h sz rs) (p : Nat) : Box3 h sz (rs.drop p ++ rs.take p) := by
  have pm : (rs.drop p ++ rs.take p).Perm rs := by
    have := List.perm_append_comm (l₁ := rs.drop p) (l₂ := rs.take p)
    rwa [List.take_append_drop] at this
  exact ⟨fun x => by rw [pm.mem_iff]; exact B.mem x, pm.nodup_iff.mpr B.nodup, by rw [pm.length_eq]; exact B.len, by rw [pm.length_eq]; exact B.ne⟩
theorem RuOk.perm {szl own : List Nat} {rs rs' : List (List Nat)} {P : List (List Nat × List Nat)} (R : RuOk szl own rs P) (h : ∀ x, x ∈ rs' → x ∈ rs) : RuOk szl own rs' P := fun x hx => R x (h x hx)
theorem drawn_spec (H : House h L) {n : Nat} {g : D} (hb : Bag n g) (hn : n < 2 ^ 30) : ∃ (g' : D) (T : List Ent), m__law_drawn_table [g, houD false h L] = .rt (.lst true (T.map entT)) [some g', none] ∧ Bag (n + 2 ^ 13) g' ∧ Tab h L T ∧ T.length ≤ 81 := by
  have h4 := H.h4
  have h2 := H.h2
  have l6 := H.l6
  have h0 : gIx (houD false h L) (.int 0) = some (.int (h : Int)) := by unfold houD; simp
  have hix : gIx (houD false h L) (.int 1) = some (.lst false (L.map (entD false))) := hou_ix1
  have ie : isImm (.lst false (L.map (entD false))) = true := by rw [imm_lstI]; exact imms_map fun _ _ => imm_ent
  have ite : itemsL (.lst false (L.map (entD false))) = some (L.map (entD false)) := by rw [items_l, frzs_mapf (f := entD false) (g := entD false) fun _ _ => by unfold entD; simp [frz_own]]
  have r1 := rng1_n (n := h) (by omega)
  have s0 : 0 ≤ sizeLine := by decide
  have s1' : 1 ≤ sizeLine := by decide
  -- sizes
  obtain ⟨acc, W, e1, g1, szl, rfl, rfl, sl, slo, shi, hb1⟩ := lc_run (i := fItN rng1 (fCons (fVar 2) fNil)) (t := gN 13) (f := fOp2 gAdd (fK (.int 1)) (fCallIO 0 2 m__law_take (fCons (fK (.int 3)) fNil))) (vs := [13]) (g := fun i => .int (i : Int)) (n := h)
    (ρ := [some g, some (houD false h L), some (.int (h : Int)), none, none, none, none, none, none, none, none, none, none, none, none, none, none, none, none, none, none])
    (ρ1 := [some g, some (houD false h L), some (.int (h : Int)), none, none, none, none, none, none, none, none, none, none, none, none, none, none, none, none, none, none])
    (fun k acc W => ∃ (g1 : D) (szl : List Nat), W = [some g1, some (houD false h L), some (.int (h : Int)), none, none, none, none, none, none, none, none, none, none, none, none, none, none, none, none, none, none] ∧ acc = szl.map natD ∧ szl.length = k ∧ (∀ i, i < k → 1 ≤ szl.getD i 0) ∧ (∀ i, i < k → szl.getD i 0 ≤ 3) ∧ Bag (n + k) g1)
    (by simp [r1]) (by simp) (by unfold sizeLine; omega) ⟨g, [], by simp, rfl, rfl, fun i hi => by omega, fun i hi => by omega, hb⟩ (by
      rintro k acc W hk ⟨g1, szl, rfl, rfl, sl, slo, shi, hb1⟩
      obtain ⟨r, g2, hr, hb2, t1⟩ := take_spec (m := 3) hb1 (by omega) (by omega) (by omega)
      have e5 : (1 : Int) + (r : Int) = ((1 + r : Nat) : Int) := by omega
      refine ⟨[some g1, some (houD false h L), some (.int (h : Int)), none, none, none, none, none, none, none, none, none, none, some (.int (k : Int)), none, none, none, none, none, none, none], by simp, natD (1 + r), [some g2, some (houD false h L), some (.int (h : Int)), none, none, none, none, none, none, none, none, none, none, some (.int (k : Int)), none, none, none, none, none, none, none], ?_, g2, szl ++ [1 + r], by simp, by simp, by simp [sl], fun i hi => ?_, fun i hi => ?_, hb2⟩
      · generalize houD false h L = HH
        simp [t1, natD_eq, e5, -Int.natCast_add]
      · rw [snoc_getD sl]
        by_cases c : i = k
        · rw [if_pos c]; omega
        · rw [if_neg c]; exact slo i (by omega)
      · rw [snoc_getD sl]
        by_cases c : i = k
        · rw [if_pos c]; omega
        · rw [if_neg c]; exact shi i (by omega))
  have Z : SzOk h szl := ⟨sl, slo, shi⟩
  -- all memories
  obtain ⟨ρ2, lp2, o2, rs, w5, w6, w7, rfl, B⟩ := loopM (step := stepS (gN 5) l__law_drawn_table_8) (f := natD) (xs := szl) (ρ := [some g1, some (houD false h L), some (.int (h : Int)), some (ownD false szl), some (.lst true ([[]].map kD)), none, none, none, none, none, none, none, none, none, none, none, none, none, none, none, none])
    (fun n' ρ => ∃ (o : Bool) (rs : List (List Nat)) (w5 w6 w7 : Option D), ρ = [some g1, some (houD false h L), some (.int (h : Int)), some (ownD false szl), some (.lst o (rs.map kD)), w5, w6, w7, none, none, none, none, none, none, none, none, none, none, none, none, none] ∧ Box3 n' (fun i => szl.getD i 0) rs)
    ⟨true, _, none, none, none, rfl, Box3.zero⟩ (by
      rintro j s ρ hj ⟨o, rs, w5, w6, w7, rfl, B⟩
      have hjl := (List.getElem?_eq_some_iff.mp hj).1
      have es : szl.getD j 0 = s := by rw [List.getD_eq_getElem?_getD, hj]; rfl
      have l1 := slo j (by omega)
      have l3 := shi j (by omega)
      rw [es] at l1 l3
      have l27 : rs.length ≤ 27 := by
        have : 3 ^ j ≤ 3 ^ 3 := Nat.pow_le_pow_right (by omega) (by omega)
        have := B.len
        omega
      obtain ⟨u6, u7, st⟩ := dt8 l3 (fun x hx => by have := ((B.mem x).mp hx).1; omega) l27 (o := o) (v0 := some g1) (v1 := some (houD false h L)) (v2 := some (.int (h : Int))) (v3 := some (ownD false szl)) (v5 := w5) (v6 := w6) (v7 := w7) (v8 := none) (v9 := none) (v10 := none) (v11 := none) (v12 := none) (v13 := none) (v14 := none) (v15 := none) (v16 := none) (v17 := none) (v18 := none) (v19 := none)
      exact ⟨_, st, false, _, _, u6, u7, rfl, B.step l1 l3 es⟩)
  rw [sl] at B
  have B81 : rs.length ≤ 81 := by
    have : 3 ^ h ≤ 3 ^ 4 := Nat.pow_le_pow_right (by omega) h4
    have := B.len
    omega
  have B1 := B.ne
  -- rules
  obtain ⟨ρ3, lp3, g3, o3, Rs, x7, x9, x10, x11, x12, x13, rfl, hb3, hRl, hR, i13⟩ := loopM (step := stepS (gT 2 (gsC (gN 9) (gsC (gN 10) gsN))) l__law_drawn_table_6) (f := entD false) (xs := L) (ρ := [some g1, some (houD false h L), some (.int (h : Int)), some (ownD false szl), some (.lst o2 (rs.map kD)), w5, w6, w7, some (.lst true (([] : List (List (List Nat × List Nat))).map ruF)), none, none, none, none, none, none, none, none, none, none, none, none])
    (fun a ρ => ∃ (g3 : D) (o3 : Bool) (Rs : List (List (List Nat × List Nat))) (x7 x9 x10 x11 x12 x13 : Option D), ρ = [some g3, some (houD false h L), some (.int (h : Int)), some (ownD false szl), some (.lst o3 (rs.map kD)), w5, w6, x7, some (.lst true (Rs.map ruF)), x9, x10, x11, x12, x13, none, none, none, none, none, none, none] ∧ Bag (n + h + 400 * a) g3 ∧ Rs.length = a ∧ (∀ (k : Nat) (e : Nat × List Nat) (P : List (List Nat × List Nat)), L[k]? = some e → Rs[k]? = some P → RuOk szl e.2 rs P) ∧ immO (some x13) = true)
    ⟨g1, o2, [], w7, none, none, none, none, none, rfl, hb1, rfl, fun k e P _ h => by simp at h, rfl⟩ (by
      rintro a e ρ he ⟨g3, o3, Rs, x7, x9, x10, x11, x12, x13, rfl, hb3, hRl, hR, i13⟩
      have ha := (List.getElem?_eq_some_iff.mp he).1
      obtain ⟨g4, P, y7, y11, y12, y13, st, hb4, rok, j13⟩ := dt6 H Z B (List.mem_of_getElem? he) (Rs := Rs) (by omega) hb3 (by omega) (o := o3) (v1 := some (houD false h L)) (v2 := some (.int (h : Int))) (v5 := w5) (v6 := w6) (v7 := x7) (v9 := x9) (v10 := x10) (v11 := x11) (v12 := x12) (v13 := x13) (v14 := none) (v15 := none) (v16 := none) (v17 := none) (v18 := none) (v19 := none) (v20 := none) i13
      refine ⟨_, st, g4, false, _, y7, _, _, y11, y12, y13, rfl, hb4.mono (by omega), by simp [hRl], fun k f Q hf hQ => ?_, j13⟩
      by_cases c : k = a
      · subst c
        rw [he] at hf; cases hf
        rw [List.getElem?_append_right (by omega), hRl, Nat.sub_self] at hQ
        cases hQ; exact rok
      · have hk : k < Rs.length := by
          have := (List.getElem?_eq_some_iff.mp hQ).1
          rw [List.length_append, List.length_singleton] at this
          omega
        rw [List.getElem?_append_left hk] at hQ
        exact hR k f Q hf hQ)
  -- turned
  obtain ⟨p, g4, hp, hb4, t4⟩ := take_spec (m := (rs.length : Int)) hb3 (by omega) (by omega) (by omega)
  have hp' : p ≤ rs.length := by omega
  have B' := rot_box B p
  obtain ⟨rs', hrs'⟩ : ∃ rs', rs' = rs.drop p ++ rs.take p := ⟨_, rfl⟩
  have pm : ∀ x, x ∈ rs' → x ∈ rs := fun x hx => by
    rw [hrs'] at hx
    rcases List.mem_append.mp hx with z | z
    · exact List.mem_of_mem_drop z
    · exact List.mem_of_mem_take z
  rw [← hrs'] at B'
  have hR' : ∀ (k : Nat) (e : Nat × List Nat) (P : List (List Nat × List Nat)), L[k]? = some e → Rs[k]? = some P → RuOk szl e.2 rs' P := fun k e P h1 h2 => (hR k e P h1 h2).perm pm
  have B81' : rs'.length ≤ 81 := by
    have : 3 ^ h ≤ 3 ^ 4 := Nat.pow_le_pow_right (by omega) h4
    have := B'.len
    omega
  -- entries
  obtain ⟨ρ5, lp5, g5, o5, T, y7, y9, y10, y13, y16, y17, y18, y19, y20, rfl, hb5, hT1, hT2, _⟩ := loopM (step := stepS (gN 7) l__law_drawn_table_3) (f := kD) (xs := rs') (ρ := [some g4, some (houD false h L), some (.int (h : Int)), some (ownD false szl), some (.lst false (rs'.map kD)), w5, w6, x7, some (.lst true (Rs.map ruF)), x9, x10, x11, x12, x13, some (.int (p : Int)), some (.lst true (([] : List Ent).map entT)), none, none, none, none, none])
    (fun j ρ => ∃ (g5 : D) (o5 : Bool) (T : List Ent) (y7 y9 y10 y13 y16 y17 y18 y19 y20 : Option D), ρ = [some g5, some (houD false h L), some (.int (h : Int)), some (ownD false szl), some (.lst o5 (rs'.map kD)), w5, w6, y7, some (.lst true (Rs.map ruF)), y9, y10, x11, x12, y13, some (.int (p : Int)), some (.lst true (T.map entT)), y16, y17, y18, y19, y20] ∧ Bag (n + h + 400 * L.length + 1 + j) g5 ∧ T.map (·.1) = rs'.take j ∧ (∀ e ∈ T, e.2.2 = folL h L rs' Rs e.1 L.length) ∧ immO (some y13) = true)
    ⟨g4, false, [], x7, x9, x10, x13, none, none, none, none, none, rfl, hb4, by simp, by simp, i13⟩ (by
      rintro j x ρ hj ⟨g5, o5, T, y7, y9, y10, y13, y16, y17, y18, y19, y20, rfl, hb5, hT1, hT2, j13⟩
      have hjl := (List.getElem?_eq_some_iff.mp hj).1
      have tl : T.length ≤ 100 := by
        have := congrArg List.length hT1
        rw [List.length_map, List.length_take] at this
        omega
      obtain ⟨g6, b, z9, z10, z13, z16, z17, z18, z19, z20, st, hb6, k13⟩ := dt3 H Z B' hRl hR' (List.mem_of_getElem? hj) (T := T) tl hb5 (by omega) (o := o5) (v2 := some (.int (h : Int))) (v3 := some (ownD false szl)) (v5 := w5) (v6 := w6) (v7 := y7) (v9 := y9) (v10 := y10) (v11 := x11) (v12 := x12) (v13 := y13) (v14 := some (.int (p : Int))) (v16 := y16) (v17 := y17) (v18 := y18) (v19 := y19) (v20 := y20) j13
      refine ⟨_, st, g6, false, _, _, z9, z10, z13, z16, z17, z18, z19, z20, rfl, hb6, ?_, fun e he => ?_, k13⟩
      · rw [List.map_append, hT1, List.take_succ, hj]; rfl
      · rcases List.mem_append.mp he with z | z
        · exact hT2 e z
        · rw [List.mem_singleton] at z; subst z; rfl)
  rw [List.take_length] at hT1
  obtain ⟨tb, t81⟩ := drawn_tab H B' hR' hRl hT1 hT2
  refine ⟨g5, T, ?_, hb5.mono (by omega), tb, t81⟩
  have f4 : frz (.lst o2 (rs.map kD)) = .lst false (rs.map kD) := by rw [frz_lst, frzs_kD]
  have f3 : frz (.lst o3 (rs.map kD)) = .lst false (rs.map kD) := by rw [frz_lst, frzs_kD]
  have f5 : frz (D.lst false (rs.map kD)) = .lst false (rs.map kD) := by rw [frz_lst, frzs_kD]
  have f6 : frz (D.lst true (rs'.map kD)) = .lst false (rs'.map kD) := by rw [frz_lst, frzs_kD]
  have i6 : itemsL (.lst false (rs'.map kD)) = some (rs'.map kD) := by rw [items_l, frzs_kD]
  have fs : frz (ownD true szl) = ownD false szl := frz_own
  have si : itemsL (ownD false szl) = some (szl.map natD) := own_items
  have im := imms_kD (rs := rs)
  have gl3 : gLen [.lst o3 (rs.map kD)] = some (.int (rs.length : Int)) := by rw [len_l, List.length_map]
  have a1 : gSl (.lst false (rs.map kD)) (some (p : Int)) none = some (.lst true ((rs.drop p).map kD)) := by rw [sl_from im (by rw [List.length_map]; exact hp'), List.map_drop]
  have a2 : gSl (.lst false (rs.map kD)) none (some (p : Int)) = some (.lst true ((rs.take p).map kD)) := by rw [sl_to im, List.map_take]
  have a3 : gAdd (.lst true ((rs.drop p).map kD)) (.lst true ((rs.take p).map kD)) = some (.lst true (rs'.map kD)) := by
    rw [add_ll, if_pos ⟨⟨imms_kD, imms_kD⟩, by rw [List.length_map, List.length_map, List.length_drop, List.length_take]; unfold sizeLine; omega⟩, hrs', List.map_append]
  have e1' : fLc (fItN rng1 (fCons (fVar 2) fNil)) (gN 13) fYes (fOp2 gAdd (fK (.int 1)) (fCallIO 0 2 m__law_take (fCons (fK (.int 3)) fNil))) [13] [some g, some (houD false h L), some (.int (h : Int)), none, none, none, none, none, none, none, none, none, none, none, none, none, none, none, none, none, none]
      = .ok (ownD true szl) [some g1, some (houD false h L), some (.int (h : Int)), none, none, none, none, none, none, none, none, none, none, none, none, none, none, none, none, none, none] := by
    rw [e1]
    show Hap.R.ok (D.lst true (szl.map natD)) _ = _
    congr 1
  have lp2 : loopS (stepS (gN 5) l__law_drawn_table_8) (szl.map natD) [some g1, some (houD false h L), some (.int (h : Int)), some (ownD false szl), some (.lst true [.tup []]), none, none, none, none, none, none, none, none, none, none, none, none, none, none, none, none] = _ := lp2
  have lp3 : loopS (stepS (gT 2 (gsC (gN 9) (gsC (gN 10) gsN))) l__law_drawn_table_6) (L.map (entD false)) [some g1, some (houD false h L), some (.int (h : Int)), some (ownD false szl), some (.lst o2 (rs.map kD)), w5, w6, w7, some (.lst true []), none, none, none, none, none, none, none, none, none, none, none, none] = _ := lp3
  have lp5 : loopS (stepS (gN 7) l__law_drawn_table_3) (rs'.map kD) [some g4, some (houD false h L), some (.int (h : Int)), some (ownD false szl), some (.lst false (rs'.map kD)), w5, w6, x7, some (.lst true (Rs.map ruF)), x9, x10, x11, x12, x13, some (.int (p : Int)), some (.lst true []), none, none, none, none, none] = _ := lp5
  unfold m__law_drawn_table; rw [semOf_ap]; unfold b__law_drawn_table
  have iT : isImm (D.lst true (T.map entT)) = false := rfl
  generalize D.lst true (T.map entT) = TT' at *
  generalize D.lst o5 (rs'.map kD) = R5 at *
  generalize D.lst true (rs'.map kD) = R6t at *
  generalize D.lst false (rs'.map kD) = R6 at *
  generalize rs'.map kD = RX at *
  generalize D.lst true ((rs.drop p).map kD) = RD at *
  generalize D.lst true ((rs.take p).map kD) = RTk at *
  generalize D.lst o3 (rs.map kD) = R3 at *
  generalize D.lst o2 (rs.map kD) = R2 at *
  generalize D.lst false (rs.map kD) = RF at *
  generalize D.lst true (Rs.map ruF) = RR at *
  generalize ownD true szl = SZt at *
  generalize ownD false szl = SZ at *
  generalize szl.map natD = SX at *
  generalize D.lst false (L.map (entD false)) = LE at *
  generalize L.map (entD false) = LX at *
  generalize houD false h L = HH at *
  simp [-ix_t, -len_l, h0, hix, ie, ite, s0, s1', e1', fs, si, lp2, lp3, gl3, t4, f3, f5, a1, a2, a3, f6, i6, lp5, iT]
inductive PlC : D → Prop
  | int (i : Int) : PlC (.int i)
  | bl (b : Bool) : PlC (.bl b)
  | non : PlC .non
  | str (x : Str) : PlC (.str x)
  | tup {ds : List D} (h : isImms ds = true) : PlC (.tup ds)
  | lst {ds : List D} (h : isImms ds = true) : PlC (.lst false ds)
structure Pln (d : D) : Prop where
  c : PlC d
  sh : Sh 20 d
theorem Pln.imm {d : D} (p : Pln d) : isImm d = true := by
  cases p.c with
  | tup h => rw [imm_tup]; exact h
  | lst h => rw [imm_lstI]; exact h
  | _ => rfl
theorem Pln.frz {d : D} (p : Pln d) : Hap.frz d = d := frz_imm _ p.imm
theorem frzs_pln {ds : List D} (h : ∀ d ∈ ds, Pln d) : frzs ds = ds := by
  rw [frzs_map]
  conv => rhs; rw [← List.map_id ds]
  exact List.map_congr_left fun d hd => (h d hd).frz
theorem imms_pln : ∀ {ds : List D}, (∀ d ∈ ds, Pln d) → isImms ds = true
  | [], _ => rfl
  | d :: ds, h => by
    have h1 := (h d List.mem_cons_self).imm
    have h2 := imms_pln (ds := ds) fun e he => h e (List.mem_cons_of_mem _ he)
    simp [h1, h2]
def wh : D → Bool
  | .int _ => true
  | _ => false
def geB : D → Bool
  | .int z => decide (0 ≤ z)
  | _ => false
def ltB (n : Int) : D → Bool
  | .int z => decide (0 ≤ z) && decide (z < n)
  | _ => false
def isBl : D → Bool
  | .bl _ => true
  | _ => false
theorem whole_any {d : D} (p : Pln d) : m_is_whole [d] = .rt (.bl (wh d)) [none] := by
  unfold m_is_whole; rw [semOf_ap]; unfold b_is_whole
  cases p.c <;> simp [wh]
theorem lwhole_any {d : D} (p : Pln d) : m__law_whole [d] = .rt (.bl (wh d)) [none] := by
  unfold m__law_whole; rw [semOf_ap]; unfold b__law_whole
  cases p.c <;> simp [wh]
theorem isb_any {d : D} (p : Pln d) : gIsi [d, .gv (.ty "bool")] = some (.bl (isBl d)) := by cases p.c <;> simp [isBl]
/-- a tuple or a list -/
def sqD (t : Bool) (ds : List D) : D := if t = true then .tup ds else .lst false ds
theorem sq_imm {t : Bool} {ds : List D} (h : isImms ds = true) : isImm (sqD t ds) = true := by
  cases t
  · show isImm (.lst false ds) = true; rw [imm_lstI]; exact h
  · show isImm (.tup ds) = true; rw [imm_tup]; exact h
theorem sq_isi {t : Bool} {ds : List D} : gIsi [sqD t ds, .gv (.ty "tuple")] = some (.bl t) := by
  cases t
  · exact isi_lst_tuple
  · exact isi_tup_tuple
theorem sq_len {t : Bool} {ds : List D} : gLen [sqD t ds] = some (.int (ds.length : Int)) := by
  cases t
  · exact len_l
  · exact len_t
theorem sq_items {t : Bool} {ds : List D} (h : frzs ds = ds) : itemsX (sqD t ds) = some ds := by
  cases t
  · show some (frzs ds) = _; rw [h]
  · show some (frzs ds) = _; rw [h]
/-- what an entry is -/
def entB (h l : Nat) (n : Int) (tm : Bool) (ms : List D) (g : D) (tf : Bool) (fs : List D) : Bool :=
  isBl g && (tm && decide (ms.length = h)) && (tf && decide (fs.length = l)) && ms.all geB && fs.all (ltB n)
def enD3 (tm : Bool) (ms : List D) (g : D) (tf : Bool) (fs : List D) : D := .tup [sqD tm ms, g, sqD tf fs]
section
variable {tm tf : Bool} {ms fs : List D} {g : D} {n : Int}
theorem ne_nat {a b : Nat} : gNe (.int (a : Int)) (.int (b : Int)) = some (.bl (!decide (a = b))) := by
  rw [ne_ii]; congr 3; rw [decide_eq_decide]; omega
theorem ent_any (H : House h L) (pm : ∀ d ∈ ms, Pln d) (pg : Pln g) (pf : ∀ d ∈ fs, Pln d) (lm : ms.length ≤ 1000) (lf : fs.length ≤ 1000) :
    m_is_entry_tables [houD false h L, enD3 tm ms g tf fs, .int n] = .rt (.bl (entB h L.length n tm ms g tf fs)) [none, none, none] := by
  have h0 : gIx (houD false h L) (.int 0) = some (.int (h : Int)) := by unfold houD; simp
  have hix : gIx (houD false h L) (.int 1) = some (.lst false (L.map (entD false))) := hou_ix1
  have ll : gLen [.lst false (L.map (entD false))] = some (.int (L.length : Int)) := by rw [len_l, List.length_map]
  have im := imms_pln pm
  have if_ := imms_pln pf
  have fm := frzs_pln pm
  have ff := frzs_pln pf
  have iM := sq_imm (t := tm) im
  have iF := sq_imm (t := tf) if_
  have fM := frz_imm _ iM
  have fF := frz_imm _ iF
  have sM := sq_isi (t := tm) (ds := ms)
  have sF := sq_isi (t := tf) (ds := fs)
  have nM := sq_len (t := tm) (ds := ms)
  have nF := sq_len (t := tf) (ds := fs)
  have tM := sq_items (t := tm) fm
  have tF := sq_items (t := tf) ff
  have ib := isb_any pg
  have ig := pg.imm
  have fg := pg.frz
  have q1 := ne_nat (a := ms.length) (b := h)
  have q2 := ne_nat (a := fs.length) (b := L.length)
  have ne3 : gNe (.int 3) (.int 3) = some (.bl false) := by rw [ne_ii]; simp
  have hd : gIsi [enD3 tm ms g tf fs, .gv (.ty "tuple")] = some (.bl true) := isi_tup_tuple
  have lt : gLen [enD3 tm ms g tf fs] = some (.int 3) := by unfold enD3; rw [len_t]; rfl
  have e1 : gIx (enD3 tm ms g tf fs) (.int 1) = some g := by unfold enD3; rw [ix_t, at_1]; rfl
  have iE : isImm (enD3 tm ms g tf fs) = true := by unfold enD3; rw [imm_tup]; simp [iM, iF, ig]
  have fE := frz_imm _ iE
  have gv : gT 3 (gsC (gN 3) (gsC (gN 4) (gsC (gN 5) gsN))) (enD3 tm ms g tf fs) [some (houD false h L), some (enD3 tm ms g tf fs), some (.int n), none, none, none, none] = some [some (houD false h L), some (enD3 tm ms g tf fs), some (.int n), some (sqD tm ms), some g, some (sqD tf fs), none] := by
    have : enD3 tm ms g tf fs = .tup [sqD tm ms, g, sqD tf fs] := rfl
    generalize hE : enD3 tm ms g tf fs = E at *
    rw [this]; simp
  have lc1 : fLc (fIt itemsX (fVar 3)) (gN 6) fYes (fAndD (fCall 1 m_is_whole (fCons (fVar 6) fNil)) (fI (vOp2 gGe (vVar 6) (vK (.int 0))))) [6] [some (houD false h L), some (enD3 tm ms g tf fs), some (.int n), some (sqD tm ms), some g, some (sqD tf fs), none]
      = .ok (.lst true (ms.map fun d => .bl (geB d))) [some (houD false h L), some (enD3 tm ms g tf fs), some (.int n), some (sqD tm ms), some g, some (sqD tf fs), none] := by
    generalize sqD tm ms = SM at *
    generalize sqD tf fs = SF at *
    generalize enD3 tm ms g tf fs = EE at *
    generalize houD false h L = HH at *
    refine lc_all (g := fun d => d) (by rw [List.map_id' ms]; simp [fM, tM]) (by simp) (by unfold sizeLine; omega) fun d hd => ?_
    have p := pm d hd
    have w := whole_any p
    have f := p.frz
    refine ⟨[some HH, some EE, some (.int n), some SM, some g, some SF, some d], by simp, [some HH, some EE, some (.int n), some SM, some g, some SF, some d], ?_, by simp⟩
    cases p.c <;> simp [f, w, wh, geB]
  have lc2 : fLc (fIt itemsX (fVar 5)) (gN 6) fYes (fAndD (fCall 1 m_is_whole (fCons (fVar 6) fNil)) (fChain gLe gLt (fK (.int 0)) (fVar 6) (fVar 2))) [6] [some (houD false h L), some (enD3 tm ms g tf fs), some (.int n), some (sqD tm ms), some g, some (sqD tf fs), none]
      = .ok (.lst true (fs.map fun d => .bl (ltB n d))) [some (houD false h L), some (enD3 tm ms g tf fs), some (.int n), some (sqD tm ms), some g, some (sqD tf fs), none] := by
    generalize sqD tm ms = SM at *
    generalize sqD tf fs = SF at *
    generalize enD3 tm ms g tf fs = EE at *
    generalize houD false h L = HH at *
    refine lc_all (g := fun d => d) (by rw [List.map_id' fs]; simp [fF, tF]) (by simp) (by unfold sizeLine; omega) fun d hd => ?_
    have p := pf d hd
    have w := whole_any p
    have f := p.frz
    refine ⟨[some HH, some EE, some (.int n), some SM, some g, some SF, some d], by simp, [some HH, some EE, some (.int n), some SM, some g, some SF, some d], ?_, by simp⟩
    cases p.c with
    | int z =>
      by_cases c : 0 ≤ z
      · by_cases c2 : z < n <;> simp [f, w, wh, ltB, c, c2]
      · simp [f, w, wh, ltB, c]
    | _ => simp [f, w, wh, ltB]
  have ga1 := all_map_bl (o := true) geB ms
  have ga2 := all_map_bl (o := true) (ltB n) fs
  unfold m_is_entry_tables; rw [semOf_ap]; unfold b_is_entry_tables entB
  generalize ms.all geB = A1 at *
  generalize fs.all (ltB n) = A2 at *
  generalize (ms.map fun d => D.bl (geB d)) = B1 at *
  generalize (fs.map fun d => D.bl (ltB n d)) = B2 at *
  generalize decide (ms.length = h) = c1 at *
  generalize decide (fs.length = L.length) = c2 at *
  generalize enD3 tm ms g tf fs = EE at *
  generalize sqD tm ms = SM at *
  generalize sqD tf fs = SF at *
  generalize D.lst false (L.map (entD false)) = LE at *
  generalize houD false h L = HH at *
  generalize isBl g = gb at *
  cases gb
  · simp [-ix_t, -len_t, -len_l, -ne_ii, -all_l, hd, lt, e1, ib, ne3]
  cases tm
  · simp [-ix_t, -len_t, -len_l, -ne_ii, -all_l, hd, lt, e1, ib, ne3, gv, fE, sM]
  cases c1
  · simp [-ix_t, -len_t, -len_l, -ne_ii, -all_l, hd, lt, e1, ib, ne3, gv, fE, sM, nM, h0, q1]
  cases tf
  · simp [-ix_t, -len_t, -len_l, -ne_ii, -all_l, hd, lt, e1, ib, ne3, gv, fE, sM, nM, h0, q1, sF]
  cases c2
  · simp [-ix_t, -len_t, -len_l, -ne_ii, -all_l, hd, lt, e1, ib, ne3, gv, fE, sM, nM, h0, q1, sF, nF, hix, ll, q2]
  cases A1
  · simp [-ix_t, -len_t, -len_l, -ne_ii, -all_l, hd, lt, e1, ib, ne3, gv, fE, sM, nM, h0, q1, sF, nF, hix, ll, q2, lc1, ga1]
  · simp [-ix_t, -len_t, -len_l, -ne_ii, -all_l, hd, lt, e1, ib, ne3, gv, fE, sM, nM, h0, q1, sF, nF, hix, ll, q2, lc1, ga1, lc2, ga2]
/-- what is no tuple of three is no entry -/
def three : D → Bool
  | .tup ds => decide (ds.length = 3)
  | _ => false
theorem ent_odd {d : D} (p : Pln d) (h3 : three d = false) : m_is_entry_tables [houD false h L, d, .int n] = .rt (.bl false) [none, none, none] := by
  unfold m_is_entry_tables; rw [semOf_ap]; unfold b_is_entry_tables
  generalize houD false h L = HH at *
  cases p.c with
  | tup hh =>
    rename_i ds
    have c : ¬ ds.length = 3 := of_decide_eq_false h3
    have q : gNe (.int (ds.length : Int)) (.int 3) = some (.bl true) := by
      rw [show (.int 3 : D) = .int ((3 : Nat) : Int) from rfl, ne_nat, decide_eq_false c]; rfl
    simp [-ne_ii, q]
  | _ => simp
end
section
variable {tm tf : Bool} {ms fs : List D} {g : D} {n : Int}
theorem eq_nil {xs : List D} {m : Nat} (hm : m ≤ 50) (hs : ∀ d ∈ xs, Sh m d) : gEq (.lst true xs) (.lst true []) = some (.bl (decide (xs = []))) := by
  have h1 : Sh (m + 1) (.lst true xs) := sh_lst hs
  have h2 : Sh (m + 1) (.lst true []) := sh_lst fun d hd => by cases hd
  show (if SeqAt.shaped (toPy (.lst true xs)) = true ∧ SeqAt.shaped (toPy (.lst true [])) = true then some (D.bl (PyData.eqv (toPy (.lst true xs)) (toPy (.lst true [])))) else none) = _
  rw [if_pos ⟨h1.shaped (by omega), h2.shaped (by omega)⟩]
  cases xs with
  | nil => rw [SeqAt.eqv_refl _ h2.1]; rfl
  | cons x xs => rfl
theorem ne_nil {xs : List D} {m : Nat} (hm : m ≤ 50) (hs : ∀ d ∈ xs, Sh m d) : gNe (.lst true xs) (.lst true []) = some (.bl (!decide (xs = []))) := by unfold gNe; rw [eq_nil hm hs]
theorem none_left {p : D → Bool} {xs : List D} : decide (xs.filter (fun d => !p d) = []) = xs.all p := by
  rw [Bool.eq_iff_iff, decide_eq_true_eq, List.filter_eq_nil_iff, List.all_eq_true]
  exact ⟨fun z d hd => by have := z d hd; simpa using this, fun z d hd => by rw [z d hd]; simp⟩
theorem lent_any (H : House h L) (pm : ∀ d ∈ ms, Pln d) (pg : Pln g) (pf : ∀ d ∈ fs, Pln d) (lm : ms.length ≤ 1000) (lf : fs.length ≤ 1000) :
    m__law_is_entry [houD false h L, enD3 tm ms g tf fs, .int n] = .rt (.bl (entB h L.length n tm ms g tf fs)) [none, none, none] := by
  have h0 : gIx (houD false h L) (.int 0) = some (.int (h : Int)) := by unfold houD; simp
  have hix : gIx (houD false h L) (.int 1) = some (.lst false (L.map (entD false))) := hou_ix1
  have ll : gLen [.lst false (L.map (entD false))] = some (.int (L.length : Int)) := by rw [len_l, List.length_map]
  have im := imms_pln pm
  have if_ := imms_pln pf
  have fm := frzs_pln pm
  have ff := frzs_pln pf
  have iM := sq_imm (t := tm) im
  have iF := sq_imm (t := tf) if_
  have fM := frz_imm _ iM
  have fF := frz_imm _ iF
  have sM := sq_isi (t := tm) (ds := ms)
  have sF := sq_isi (t := tf) (ds := fs)
  have nM := sq_len (t := tm) (ds := ms)
  have nF := sq_len (t := tf) (ds := fs)
  have tM := sq_items (t := tm) fm
  have tF := sq_items (t := tf) ff
  have ib := isb_any pg
  have q1 := ne_nat (a := ms.length) (b := h)
  have q2 := ne_nat (a := fs.length) (b := L.length)
  have ne3 : gNe (.int 3) (.int 3) = some (.bl false) := by rw [ne_ii]; simp
  have hd : gIsi [enD3 tm ms g tf fs, .gv (.ty "tuple")] = some (.bl true) := isi_tup_tuple
  have lt : gLen [enD3 tm ms g tf fs] = some (.int 3) := by unfold enD3; rw [len_t]; rfl
  have e0 : gIx (enD3 tm ms g tf fs) (.int 0) = some (sqD tm ms) := by unfold enD3; rw [ix_t, at_0]; rfl
  have e1 : gIx (enD3 tm ms g tf fs) (.int 1) = some g := by unfold enD3; rw [ix_t, at_1]; rfl
  have e2 : gIx (enD3 tm ms g tf fs) (.int 2) = some (sqD tf fs) := by unfold enD3; rw [ix_t, show (2 : Int) = ((2 : Nat) : Int) from rfl, at_nat]; rfl
  have lc1 : fLc (fIt itemsX (fI (vOp2 gIx (vVar 1) (vK (.int 0))))) (gN 3) (fOr (fNot (fTb (fCall 1 m__law_whole (fCons (fVar 3) fNil)))) (fTv (vOp2 gLt (vVar 3) (vK (.int 0))))) (fVar 3) [3] [some (houD false h L), some (enD3 tm ms g tf fs), some (.int n), none]
      = .ok (.lst true (ms.filter fun d => !geB d)) [some (houD false h L), some (enD3 tm ms g tf fs), some (.int n), none] := by
    generalize sqD tm ms = SM at *
    generalize enD3 tm ms g tf fs = EE at *
    generalize houD false h L = HH at *
    rw [← List.map_id' (ms.filter fun d => !geB d)]
    refine lc_map (g := fun d => d) (p := fun d => !geB d) (e := fun d => d) (by rw [List.map_id' ms]; simp [e0, iM, tM]) (by simp) (by unfold sizeLine; omega) fun d hd => ?_
    have p := pm d hd
    have w := lwhole_any p
    have f := p.frz
    refine ⟨[some HH, some EE, some (.int n), some d], by simp, [some HH, some EE, some (.int n), some d], ?_, fun _ => ⟨[some HH, some EE, some (.int n), some d], by simp [f], by simp⟩, fun _ => by simp⟩
    cases p.c with
    | int z =>
      by_cases c : z < 0
      · have c2 : ¬ 0 ≤ z := by omega
        simp [f, w, wh, geB, c, c2]
      · have c2 : 0 ≤ z := by omega
        simp [f, w, wh, geB, c, c2]
    | _ => simp [f, w, wh, geB]
  have lc2 : fLc (fIt itemsX (fI (vOp2 gIx (vVar 1) (vK (.int 2))))) (gN 3) (fOr (fNot (fTb (fCall 1 m__law_whole (fCons (fVar 3) fNil)))) (fNot (fTb (fChain gLe gLt (fK (.int 0)) (fVar 3) (fVar 2))))) (fVar 3) [3] [some (houD false h L), some (enD3 tm ms g tf fs), some (.int n), none]
      = .ok (.lst true (fs.filter fun d => !ltB n d)) [some (houD false h L), some (enD3 tm ms g tf fs), some (.int n), none] := by
    generalize sqD tf fs = SF at *
    generalize enD3 tm ms g tf fs = EE at *
    generalize houD false h L = HH at *
    rw [← List.map_id' (fs.filter fun d => !ltB n d)]
    refine lc_map (g := fun d => d) (p := fun d => !ltB n d) (e := fun d => d) (by rw [List.map_id' fs]; simp [e2, iF, tF]) (by simp) (by unfold sizeLine; omega) fun d hd => ?_
    have p := pf d hd
    have w := lwhole_any p
    have f := p.frz
    refine ⟨[some HH, some EE, some (.int n), some d], by simp, [some HH, some EE, some (.int n), some d], ?_, fun _ => ⟨[some HH, some EE, some (.int n), some d], by simp [f], by simp⟩, fun _ => by simp⟩
    cases p.c with
    | int z =>
      by_cases c : 0 ≤ z
      · by_cases c2 : z < n <;> simp [f, w, wh, ltB, c, c2]
      · simp [f, w, wh, ltB, c]
    | _ => simp [f, w, wh, ltB]
  have ga1 := ne_nil (m := 20) (by omega) (xs := ms.filter fun d => !geB d) fun d hd => (pm d ((List.mem_filter.mp hd).1)).sh
  have ga2 := eq_nil (m := 20) (by omega) (xs := fs.filter fun d => !ltB n d) fun d hd => (pf d ((List.mem_filter.mp hd).1)).sh
  rw [none_left] at ga1 ga2
  have s0 : 0 ≤ sizeLine := by decide
  unfold m__law_is_entry; rw [semOf_ap]; unfold b__law_is_entry entB
  generalize ms.all geB = A1 at *
  generalize fs.all (ltB n) = A2 at *
  generalize (ms.filter fun d => !geB d) = B1 at *
  generalize (fs.filter fun d => !ltB n d) = B2 at *
  generalize decide (ms.length = h) = c1 at *
  generalize decide (fs.length = L.length) = c2 at *
  generalize enD3 tm ms g tf fs = EE at *
  generalize sqD tm ms = SM at *
  generalize sqD tf fs = SF at *
  generalize D.lst false (L.map (entD false)) = LE at *
  generalize houD false h L = HH at *
  generalize isBl g = gb at *
  cases gb
  · simp [-ix_t, -len_t, -len_l, -ne_ii, -all_l, hd, lt, e1, ib, ne3]
  cases tm
  · simp [-ix_t, -len_t, -len_l, -ne_ii, -all_l, hd, lt, e1, ib, ne3, e0, sM]
  cases tf
  · simp [-ix_t, -len_t, -len_l, -ne_ii, -all_l, hd, lt, e1, ib, ne3, e0, sM, e2, sF]
  cases c1
  · simp [-ix_t, -len_t, -len_l, -ne_ii, -all_l, hd, lt, e1, ib, ne3, e0, sM, e2, sF, nM, h0, q1]
  cases c2
  · simp [-ix_t, -len_t, -len_l, -ne_ii, -all_l, hd, lt, e1, ib, ne3, e0, sM, e2, sF, nM, h0, q1, nF, hix, ll, q2]
  cases A1
  · simp [-ix_t, -len_t, -len_l, -ne_ii, -all_l, hd, lt, e1, ib, ne3, e0, sM, e2, sF, nM, h0, q1, nF, hix, ll, q2, lc1, ga1, s0]
  · simp [-ix_t, -len_t, -len_l, -ne_ii, -all_l, hd, lt, e1, ib, ne3, e0, sM, e2, sF, nM, h0, q1, nF, hix, ll, q2, lc1, ga1, lc2, ga2, s0]
theorem lent_odd {d : D} (p : Pln d) (h3 : three d = false) : m__law_is_entry [houD false h L, d, .int n] = .rt (.bl false) [none, none, none] := by
  unfold m__law_is_entry; rw [semOf_ap]; unfold b__law_is_entry
  generalize houD false h L = HH at *
  cases p.c with
  | tup hh =>
    rename_i ds
    have c : ¬ ds.length = 3 := of_decide_eq_false h3
    have q : gNe (.int (ds.length : Int)) (.int 3) = some (.bl true) := by
      rw [show (.int 3 : D) = .int ((3 : Nat) : Int) from rfl, ne_nat, decide_eq_false c]; rfl
    simp [-ne_ii, q]
  | _ => simp
end
def lkP : List (List Nat × List Nat) → List Nat → Option (List Nat)
  | [], _ => none
  | p :: P, x => if p.1 = x then some p.2 else lkP P x
theorem lkP_cons {p : List Nat × List Nat} {P : List (List Nat × List Nat)} {x : List Nat} : lkP (p :: P) x = if p.1 = x then some p.2 else lkP P x := rfl
theorem lkP_app {P Q : List (List Nat × List Nat)} {x : List Nat} : lkP (P ++ Q) x = match lkP P x with | some y => some y | none => lkP Q x := by
  induction P with
  | nil => rfl
  | cons p P ih =>
    rw [List.cons_append, lkP_cons, lkP_cons]
    by_cases c : p.1 = x
    · rw [if_pos c, if_pos c]
    · rw [if_neg c, if_neg c, ih]
def ruD (P : List (List Nat × List Nat)) : D := .dcT true (P.map fun p => kK p.1) (P.map fun p => kD p.2)
theorem ru_get : ∀ (P : List (List Nat × List Nat)) (x : List Nat), getK (P.map fun p => kK p.1) (P.map fun p => kD p.2) (kK x) = (lkP P x).map kD
  | [], x => rfl
  | p :: P, x => by
    rw [List.map_cons, List.map_cons]
    unfold getK
    rw [ru_get P x, lkP_cons]
    by_cases c : p.1 = x
    · rw [if_pos (kK_inj.mpr c), if_pos c]; rfl
    · rw [if_neg fun z => c (kK_inj.mp z), if_neg c]
theorem ru_ix {P : List (List Nat × List Nat)} {x y : List Nat} (h : lkP P x = some y) : gIx (ruD P) (kD x) = some (kD y) := by
  show (keysOf (x.map natD)).bind _ = _
  rw [keysOf_kK, Option.bind_some, ru_get, h]; rfl
theorem ru_mem : ∀ {P : List (List Nat × List Nat)} {x : List Nat}, kK x ∈ (P.map fun p => kK p.1) ↔ (lkP P x).isSome = true
  | [], x => by simp [lkP]
  | p :: P, x => by
    rw [List.map_cons, List.mem_cons, ru_mem (P := P), lkP_cons]
    by_cases c : p.1 = x
    · rw [if_pos c]; exact ⟨fun _ => rfl, fun _ => .inl (kK_inj.mpr c.symm)⟩
    · rw [if_neg c]
      exact ⟨fun z => z.resolve_left fun w => c (kK_inj.mp w).symm, .inr⟩
theorem ru_put {P : List (List Nat × List Nat)} {x y : List Nat} (hl : P.length < sizeLine) (h : lkP P x = none) : putD (ruD P) (kD x) (kD y) = some (ruD (P ++ [(x, y)])) := by
  have e : putD (ruD P) (kD x) (kD y) = match keysOf (x.map natD) with
    | some c => if (P.map fun p => kD p.2).length < sizeLine then some (.dcT true (putKs (P.map fun p => kK p.1) (P.map fun p => kD p.2) c (kD y)).1 (putKs (P.map fun p => kK p.1) (P.map fun p => kD p.2) c (kD y)).2) else none
    | none => none := rfl
  rw [e, keysOf_kK]
  dsimp only
  rw [if_pos (by rw [List.length_map]; exact hl)]
  unfold putKs
  rw [if_neg fun z => by have := ru_mem.mp z; rw [h] at this; cases this]
  unfold ruD
  simp
theorem lookup_done {P : List (List Nat × List Nat)} {x y z w : List Nat} (h : lkP P z = some w) : lkP (P ++ [(x, y)]) z = some w := by rw [lkP_app, h]
theorem lookup_new {P : List (List Nat × List Nat)} {x y : List Nat} (h : lkP P x = none) : lkP (P ++ [(x, y)]) x = some y := by
  rw [lkP_app, h]
  show (if x = x then some y else none) = _
  rw [if_pos rfl]
theorem eq_kD {x y : List Nat} : gEq (kD x) (kD y) = some (.bl (decide (x = y))) := eq_cod eqd_kD (sh_kD.mono (by omega)) (sh_kD.mono (by omega)) rfl
theorem ne_kD {x y : List Nat} : gNe (kD x) (kD y) = some (.bl (!decide (x = y))) := by unfold gNe; rw [eq_kD]
theorem nin_of {d e : D} {b : Bool} (h : gIn d e = some (.bl b)) : gNin d e = some (.bl (!b)) := by
  unfold gIn at h
  unfold gNin
  cases c : gInB d e with
  | none => rw [c] at h; cases h
  | some b' => rw [c] at h; cases h; rfl
theorem ru_in {P : List (List Nat × List Nat)} {x : List Nat} : gIn (kD x) (ruD P) = some (.bl (lkP P x).isSome) := by
  have e : gIn (kD x) (ruD P) = ((keysOf (x.map natD)).map fun k => memK k (P.map fun p => kK p.1)).map .bl := rfl
  rw [e, keysOf_kK, Option.map_some, Option.map_some]
  have : memK (kK x) (P.map fun p => kK p.1) = (lkP P x).isSome := by
    rw [Bool.eq_iff_iff, memK_iff]
    exact ru_mem
  rw [this]
theorem repl_same : ∀ {P : List (List Nat × List Nat)} {x y : List Nat}, (P.map (·.1)).Nodup → lkP P x = some y → replK (P.map fun p => kK p.1) (P.map fun p => kD p.2) (kK x) (kD y) = P.map fun p => kD p.2
  | [], x, y, _, h => by cases h
  | p :: P, x, y, nd, h => by
    rw [List.map_cons, List.nodup_cons] at nd
    rw [List.map_cons, List.map_cons]
    unfold replK
    rw [lkP_cons] at h
    by_cases c : p.1 = x
    · rw [if_pos c] at h; cases h
      rw [if_pos (kK_inj.mpr c)]
      congr 1
      have hx : x ∉ P.map (·.1) := c ▸ nd.1
      clear nd
      induction P with
      | nil => rfl
      | cons q P ih =>
        rw [List.map_cons, List.mem_cons, not_or] at hx
        rw [List.map_cons, List.map_cons]
        unfold replK
        rw [if_neg fun z => hx.1 (kK_inj.mp z).symm, ih hx.2]
    · rw [if_neg c] at h
      rw [if_neg fun z => c (kK_inj.mp z), repl_same nd.2 h]
theorem ru_put2 {P : List (List Nat × List Nat)} {x y : List Nat} (hl : P.length < sizeLine) (nd : (P.map (·.1)).Nodup) (h : lkP P x = some y) : putD (ruD P) (kD x) (kD y) = some (ruD P) := by
  have e : putD (ruD P) (kD x) (kD y) = match keysOf (x.map natD) with
    | some c => if (P.map fun p => kD p.2).length < sizeLine then some (.dcT true (putKs (P.map fun p => kK p.1) (P.map fun p => kD p.2) c (kD y)).1 (putKs (P.map fun p => kK p.1) (P.map fun p => kD p.2) c (kD y)).2) else none
    | none => none := rfl
  rw [e, keysOf_kK]
  dsimp only
  rw [if_pos (by rw [List.length_map]; exact hl)]
  unfold putKs
  rw [if_pos (ru_mem.mpr (by rw [h]; rfl)), repl_same nd h]
  rfl
/-- the form of entries -/
structure Form (h : Nat) (L : List (Nat × List Nat)) (T : List Ent) : Prop where
  ml : ∀ e ∈ T, e.1.length = h
  fl : ∀ e ∈ T, e.2.2.length = L.length
  flt : ∀ e ∈ T, ∀ x ∈ e.2.2, x < T.length
theorem Tab.form {T : List Ent} (t : Tab h L T) : Form h L T := ⟨t.ml, t.fl, t.flt⟩
/-- a letter is done by the memories of its hands alone -/
structure Apt (h : Nat) (L : List (Nat × List Nat)) (T : List Ent) (k : Nat) : Prop where
  stay : ∀ e ∈ T, ∀ i, i < h → i ∉ (L.getD k (0, [])).2 → (bhT T e k).getD i 0 = e.1.getD i 0
  same : ∀ e ∈ T, ∀ e' ∈ T, keyN (L.getD k (0, [])).2 e.1 = keyN (L.getD k (0, [])).2 e'.1 → keyN (L.getD k (0, [])).2 (bhT T e k) = keyN (L.getD k (0, [])).2 (bhT T e' k)
theorem bh_at {T : List Ent} (F : Form h L T) {e : Ent} (he : e ∈ T) {k : Nat} (hk : k < L.length) : ∃ f ∈ T, gIx (.lst false (T.map entT)) (natD (e.2.2.getD k 0)) = some (entT f) ∧ f.1 = bhT T e k := by
  have hl : k < e.2.2.length := by rw [F.fl e he]; exact hk
  have hm : e.2.2.getD k 0 ∈ e.2.2 := by rw [List.getD_eq_getElem?_getD, List.getElem?_eq_getElem hl]; exact List.getElem_mem hl
  have hlt := F.flt e he _ hm
  refine ⟨T[e.2.2.getD k 0], List.getElem_mem hlt, ?_, ?_⟩
  · have e6 : natD (e.2.2.getD k 0) = .int ((e.2.2.getD k 0 : Nat) : Int) := rfl
    rw [e6, ix_l, at_nat, List.getElem?_map, List.getElem?_eq_getElem hlt]; rfl
  · unfold bhT
    generalize e.2.2.getD k 0 = q at *
    rw [List.getD_eq_getElem?_getD, List.getElem?_eq_getElem hlt]; rfl
theorem ent_0T {e : Ent} : gIx (entT e) (.int 0) = some (kD e.1) := by unfold entT; rw [ix_t, at_0]; rfl
theorem da1 {h4 : h ≤ 4} {ow b m : List Nat} (lb : b.length = h) (lm : m.length = h) {v0 v1 v2 v4 v6 v7 v9 v10 v11 : Option D} : Goes
    (fun ρ => (∀ i, i < h → i ∉ ow → b.getD i 0 = m.getD i 0) ∧ ∃ w9, ρ = [v0, v1, v2, some (ownD false ow), v4, some (kD m), v6, v7, some (kD b), w9, v10, v11] ∧ (0 < h → immO (some w9) = true))
    (fun d ρ => d = .bl false ∧ ¬ ∀ i, i < h → i ∉ ow → b.getD i 0 = m.getD i 0)
    (loopS (stepS (gN 9) l_is_done_apart_1) ((List.range h).map fun i => .int ((i : Nat) : Int)) [v0, v1, v2, some (ownD false ow), v4, some (kD m), v6, v7, some (kD b), v9, v10, v11]) := by
  have key := loopT (step := stepS (gN 9) l_is_done_apart_1) (f := fun i : Nat => .int (i : Int)) (T := fun d ρ => d = .bl false ∧ ¬ ∀ i, i < h → i ∉ ow → b.getD i 0 = m.getD i 0)
    (fun xs ρ => ∃ j, xs = (List.range h).drop j ∧ j ≤ h ∧ (∀ i, i < j → i ∉ ow → b.getD i 0 = m.getD i 0) ∧ ∃ w9, ρ = [v0, v1, v2, some (ownD false ow), v4, some (kD m), v6, v7, some (kD b), w9, v10, v11] ∧ (0 < j → immO (some w9) = true))
    (List.range h) [v0, v1, v2, some (ownD false ow), v4, some (kD m), v6, v7, some (kD b), v9, v10, v11]
    ⟨0, rfl, Nat.zero_le _, fun i hi => by omega, v9, rfl, fun z => by omega⟩ (by
      rintro i0 xs ρ ⟨j, e, hj, hold, w9, rfl, _⟩
      have hjl : j < h := by
        rcases Nat.lt_or_ge j h with z | z
        · exact z
        · rw [List.drop_eq_nil_of_le (by rw [List.length_range]; exact z)] at e; cases e
      rw [List.drop_eq_getElem_cons (by rw [List.length_range]; exact hjl), List.getElem_range] at e
      obtain ⟨e1, e2⟩ := List.cons.inj e
      rw [e1, e2]
      clear e e1 e2
      have ni := nin_of (gd_in (gd := ow) (y := j))
      have ab := kD_at (x := b) (i := j) (by omega)
      have am := kD_at (x := m) (i := j) (by omega)
      rw [ap_step]; unfold l_is_done_apart_1
      have nn : gNe (natD (b.getD j 0)) (natD (m.getD j 0)) = some (.bl (!decide (b.getD j 0 = m.getD j 0))) := by
        unfold natD
        rw [ne_ii]
        congr 3
        rw [decide_eq_decide]; omega
      by_cases c : j ∈ ow
      · rw [decide_eq_true c] at ni
        refine .inl ⟨[v0, v1, v2, some (ownD false ow), v4, some (kD m), v6, v7, some (kD b), some (.int (j : Int)), v10, v11], ?_, j + 1, rfl, hjl, fun i hi hn => ?_, _, rfl, fun _ => rfl⟩
        · generalize ownD false ow = OW at *
          generalize kD m = KM at *
          generalize kD b = KB at *
          simp [ni]
        · by_cases c2 : i = j
          · subst c2; exact absurd c hn
          · exact hold i (by omega) hn
      · rw [decide_eq_false c] at ni
        by_cases c3 : b.getD j 0 = m.getD j 0
        · rw [decide_eq_true c3] at nn
          refine .inl ⟨[v0, v1, v2, some (ownD false ow), v4, some (kD m), v6, v7, some (kD b), some (.int (j : Int)), v10, v11], ?_, j + 1, rfl, hjl, fun i hi hn => ?_, _, rfl, fun _ => rfl⟩
          · generalize ownD false ow = OW at *
            generalize kD m = KM at *
            generalize kD b = KB at *
            generalize natD (b.getD j 0) = NB at *
            generalize natD (m.getD j 0) = NM at *
            simp [ni, ab, am, nn]
          · by_cases c2 : i = j
            · subst c2; exact c3
            · exact hold i (by omega) hn
        · rw [decide_eq_false c3] at nn
          refine .inr ⟨.bl false, [v0, v1, v2, some (ownD false ow), v4, some (kD m), v6, v7, some (kD b), some (.int (j : Int)), v10, v11], ?_, rfl, fun z => c3 (z j hjl c)⟩
          generalize ownD false ow = OW at *
          generalize kD m = KM at *
          generalize kD b = KB at *
          generalize natD (b.getD j 0) = NB at *
          generalize natD (m.getD j 0) = NM at *
          simp [ni, ab, am, nn])
  rcases key with ⟨ρ, e, j, e2, hj, hold, w9, rfl, i9⟩ | ⟨d, ρ, e, t⟩
  · have : j = h := by
      have := congrArg List.length e2
      rw [List.length_drop, List.length_range] at this
      simp at this; omega
    subst this
    exact .inl ⟨_, e, hold, w9, rfl, i9⟩
  · exact .inr ⟨d, ρ, e, t⟩
theorem ent_gt {e : Ent} {v0 v1 v2 v3 v4 v5 v6 v7 v8 v9 v10 v11 : Option D} : gT 3 (gsC (gN 5) (gsC (gN 6) (gsC (gN 7) gsN))) (entT e) [v0, v1, v2, v3, v4, v5, v6, v7, v8, v9, v10, v11] = some [v0, v1, v2, v3, v4, some (kD e.1), some (.bl e.2.1), some (kD e.2.2), v8, v9, v10, v11] := by
  unfold entT; simp
theorem da_lc {ow m : List Nat} (hl : ow.length ≤ 100) (lt : ∀ i ∈ ow, i < m.length) {a : Nat} {v0 v1 v2 v4 v5 v6 v7 v8 v9 v10 v11 : Option D} (ha : [v0, v1, v2, some (ownD false ow), v4, v5, v6, v7, v8, v9, v10, v11][a]? = some (some (kD m))) (h9 : a ≠ 9) (i9 : immO (some v9) = true) :
    fLc (fIt itemsL (fVar 3)) (gN 9) fYes (fI (vOp2 gIx (vVar a) (vVar 9))) [9] [v0, v1, v2, some (ownD false ow), v4, v5, v6, v7, v8, v9, v10, v11]
      = .ok (.lst true (ow.map fun i => natD (m.getD i 0))) [v0, v1, v2, some (ownD false ow), v4, v5, v6, v7, v8, v9, v10, v11] := by
  have oi := own_items (o := false) (xs := ow)
  have fo : frz (ownD false ow) = ownD false ow := frz_own
  refine lc_all (g := natD) (by simp [fo, oi]) (by simp [i9]) (by unfold sizeLine; omega) fun i hi => ?_
  have ka := kD_at (x := m) (i := i) (lt i hi)
  have hv : vVar a [v0, v1, v2, some (ownD false ow), v4, v5, v6, v7, v8, some (natD i), v10, v11] = some (kD m) := by
    rw [ap_vvar]
    have e1 : [v0, v1, v2, some (ownD false ow), v4, v5, v6, v7, v8, some (natD i), v10, v11] = ([v0, v1, v2, some (ownD false ow), v4, v5, v6, v7, v8, v9, v10, v11] : Ev).set 9 (some (natD i)) := rfl
    rw [e1, List.getElem?_set_ne (Ne.symm h9), ha]; rfl
  refine ⟨[v0, v1, v2, some (ownD false ow), v4, v5, v6, v7, v8, some (natD i), v10, v11], rfl, [v0, v1, v2, some (ownD false ow), v4, v5, v6, v7, v8, some (natD i), v10, v11], ?_, rfl⟩
  rw [ap_I, v2_of hv rfl ka]; rfl
theorem key_tup {ow m : List Nat} : gTuple [.lst true (ow.map fun i => natD (m.getD i 0))] = some (kD (keyN ow m)) := by
  show (if _ then _ else _) = _
  rw [if_pos (imms_map fun _ _ => rfl)]
  unfold kD keyN
  rw [List.map_map]; rfl
structure DaI (ow : List Nat) (T : List Ent) (k : Nat) (h : Nat) (pre : List Ent) (P : List (List Nat × List Nat)) : Prop where
  get : ∀ e ∈ pre, lkP P (keyN ow e.1) = some (keyN ow (bhT T e k))
  nd : (P.map (·.1)).Nodup
  from_ : ∀ x y, lkP P x = some y → ∃ e ∈ pre, keyN ow e.1 = x ∧ keyN ow (bhT T e k) = y
  few : P.length ≤ pre.length
  stay : ∀ e ∈ pre, ∀ i, i < h → i ∉ ow → (bhT T e k).getD i 0 = e.1.getD i 0
theorem da2 (H : House h L) {T : List Ent} (F : Form h L T) (n600 : T.length ≤ 700) {k : Nat} (hk : k < L.length) {pre : List Ent} {e : Ent} (he : e ∈ T) {P : List (List Nat × List Nat)} (hpl : pre.length ≤ 700) (I : DaI (L.getD k (0, [])).2 T k h pre P) {v5 v6 v7 v8 v9 v10 v11 : Option D} : Goes
    (fun ρ => ∃ P' w8 w9 w10 w11, ρ = [some (houD false h L), some (.lst false (T.map entT)), some (.int (k : Int)), some (ownD false (L.getD k (0, [])).2), some (ruD P'), some (kD e.1), some (.bl e.2.1), some (kD e.2.2), w8, w9, w10, w11] ∧ DaI (L.getD k (0, [])).2 T k h (pre ++ [e]) P')
    (fun d ρ => d = .bl false ∧ ∃ e' ∈ pre ++ [e], ¬ ((∀ i, i < h → i ∉ (L.getD k (0, [])).2 → (bhT T e k).getD i 0 = e.1.getD i 0) ∧ (keyN (L.getD k (0, [])).2 e'.1 = keyN (L.getD k (0, [])).2 e.1 → keyN (L.getD k (0, [])).2 (bhT T e' k) = keyN (L.getD k (0, [])).2 (bhT T e k))))
    (stepS (gT 3 (gsC (gN 5) (gsC (gN 6) (gsC (gN 7) gsN)))) l_is_done_apart_2 (entT e) [some (houD false h L), some (.lst false (T.map entT)), some (.int (k : Int)), some (ownD false (L.getD k (0, [])).2), some (ruD P), v5, v6, v7, v8, v9, v10, v11]) := by
  have h4 := H.h4
  have h2 := H.h2
  obtain ⟨f, hf, ix, ef⟩ := bh_at F he hk
  have lb : (bhT T e k).length = h := by rw [← ef]; exact F.ml f hf
  have lm : e.1.length = h := F.ml e he
  have ew : L.getD k (0, []) = L[k] := by rw [List.getD_eq_getElem?_getD, List.getElem?_eq_getElem hk]; rfl
  have wo : Own h (L.getD k (0, [])).2 := by rw [ew]; exact H.own _ (List.getElem_mem hk)
  have wlt := wo.lt
  have few := rise_len (L.getD k (0, [])).2 0 h wo.rise fun x hx => ⟨by omega, wo.lt x hx⟩
  generalize hOW : (L.getD k (0, [])).2 = OW at *
  have fx : gIx (kD e.2.2) (.int (k : Int)) = some (natD (e.2.2.getD k 0)) := kD_at (by rw [F.fl e he]; exact hk)
  have f0 : gIx (entT f) (.int 0) = some (kD (bhT T e k)) := by rw [ent_0T, ef]
  have h0 : gIx (houD false h L) (.int 0) = some (.int (h : Int)) := by unfold houD; simp
  have r1 := rng1_n (n := h) (by omega)
  have e1 : fAsg (fI (vOp2 gIx (vOp2 gIx (vVar 1) (vOp2 gIx (vVar 7) (vVar 2))) (vK (.int 0)))) (gN 8) [some (houD false h L), some (.lst false (T.map entT)), some (.int (k : Int)), some (ownD false OW), some (ruD P), some (kD e.1), some (.bl e.2.1), some (kD e.2.2), v8, v9, v10, v11] = .nx [some (houD false h L), some (.lst false (T.map entT)), some (.int (k : Int)), some (ownD false OW), some (ruD P), some (kD e.1), some (.bl e.2.1), some (kD e.2.2), some (kD (bhT T e k)), v9, v10, v11] := by
    have iK := imm_kD (x := bhT T e k)
    generalize kD (bhT T e k) = KB at *
    generalize D.lst false (T.map entT) = TD at *
    generalize kD e.2.2 = KF at *
    generalize natD (e.2.2.getD k 0) = NF at *
    simp [fx, ix, f0, iK]
  rw [ap_step, ent_gt, tgR_s]; unfold l_is_done_apart_2
  rw [ap_seq, e1, seq_nx, ap_seq]
  have e2 : ∀ ρ : Ev, ρ[0]? = some (some (houD false h L)) → fItN rng1 (fCons (fI (vOp2 gIx (vVar 0) (vK (.int 0)))) fNil) ρ = .ok ((List.range h).map fun i => .int ((i : Nat) : Int)) ρ := fun ρ h => by
    generalize houD false _ L = HH at *
    simp [h, h0, r1]
  rw [ap_for, e2 _ rfl, rsof_ok]
  rcases da1 (h4 := h4) (ow := OW) lb lm (v0 := some (houD false h L)) (v1 := some (.lst false (T.map entT))) (v2 := some (.int (k : Int))) (v4 := some (ruD P)) (v6 := some (.bl e.2.1)) (v7 := some (kD e.2.2)) (v9 := v9) (v10 := v10) (v11 := v11) with ⟨ρ, lp, hs, w9, rfl, i9⟩ | ⟨d, ρ, lp, rfl, hn⟩
  rotate_left
  · exact .inr ⟨_, _, by rw [lp, seq_rt], rfl, e, by simp, fun z => hn z.1⟩
  rw [lp, seq_nx]
  have i9 := i9 (by omega)
  have c1 := fun v10 v11 => da_lc (m := e.1) (ow := OW) (by omega) (by rw [lm]; exact wlt) (a := 5) (v0 := some (houD false h L)) (v1 := some (.lst false (T.map entT))) (v2 := some (.int (k : Int))) (v4 := some (ruD P)) (v5 := some (kD e.1)) (v6 := some (.bl e.2.1)) (v7 := some (kD e.2.2)) (v8 := some (kD (bhT T e k))) (v10 := v10) (v11 := v11) rfl (by decide) i9
  have c2 := fun v10 v11 => da_lc (m := bhT T e k) (ow := OW) (by omega) (by rw [lb]; exact wlt) (a := 8) (v0 := some (houD false h L)) (v1 := some (.lst false (T.map entT))) (v2 := some (.int (k : Int))) (v4 := some (ruD P)) (v5 := some (kD e.1)) (v6 := some (.bl e.2.1)) (v7 := some (kD e.2.2)) (v8 := some (kD (bhT T e k))) (v10 := v10) (v11 := v11) rfl (by decide) i9
  have k1 := key_tup (ow := OW) (m := e.1)
  have k2 := key_tup (ow := OW) (m := bhT T e k)
  have a1 : ∀ v10 v11, fAsg (fOpN gTuple (fCons (fLc (fIt itemsL (fVar 3)) (gN 9) fYes (fI (vOp2 gIx (vVar 5) (vVar 9))) [9]) fNil)) (gN 10) [some (houD false h L), some (.lst false (T.map entT)), some (.int (k : Int)), some (ownD false OW), some (ruD P), some (kD e.1), some (.bl e.2.1), some (kD e.2.2), some (kD (bhT T e k)), w9, v10, v11] = .nx [some (houD false h L), some (.lst false (T.map entT)), some (.int (k : Int)), some (ownD false OW), some (ruD P), some (kD e.1), some (.bl e.2.1), some (kD e.2.2), some (kD (bhT T e k)), w9, some (kD (keyN OW e.1)), v11] := fun v10 v11 => by
    rw [ap_asg, ap_opN, ap_cons, c1, bind_ok, ap_nil, bind_ok, bind_ok, k1, of_some, rsof_ok, ap_gN, tgR_s]; rfl
  have a2 : ∀ v10 v11, fAsg (fOpN gTuple (fCons (fLc (fIt itemsL (fVar 3)) (gN 9) fYes (fI (vOp2 gIx (vVar 8) (vVar 9))) [9]) fNil)) (gN 11) [some (houD false h L), some (.lst false (T.map entT)), some (.int (k : Int)), some (ownD false OW), some (ruD P), some (kD e.1), some (.bl e.2.1), some (kD e.2.2), some (kD (bhT T e k)), w9, v10, v11] = .nx [some (houD false h L), some (.lst false (T.map entT)), some (.int (k : Int)), some (ownD false OW), some (ruD P), some (kD e.1), some (.bl e.2.1), some (kD e.2.2), some (kD (bhT T e k)), w9, v10, some (kD (keyN OW (bhT T e k)))] := fun v10 v11 => by
    rw [ap_asg, ap_opN, ap_cons, c2, bind_ok, ap_nil, bind_ok, bind_ok, k2, of_some, rsof_ok, ap_gN, tgR_s]; rfl
  rw [ap_seq, a1, seq_nx, ap_seq, a2, seq_nx]
  have gi := ru_in (P := P) (x := keyN OW e.1)
  have fK := frz_kD (x := keyN OW e.1)
  have fD := frz_kD (x := keyN OW (bhT T e k))
  have hPs : P.length < sizeLine := by have := I.few; unfold sizeLine; omega
  cases c : lkP P (keyN OW e.1) with
  | none =>
    rw [c] at gi
    have pt := ru_put (y := keyN OW (bhT T e k)) hPs c
    refine .inl ⟨[some (houD false h L), some (.lst false (T.map entT)), some (.int (k : Int)), some (ownD false OW), some (ruD (P ++ [(keyN OW e.1, keyN OW (bhT T e k))])), some (kD e.1), some (.bl e.2.1), some (kD e.2.2), some (kD (bhT T e k)), w9, some (kD (keyN OW e.1)), some (kD (keyN OW (bhT T e k)))], ?_, _, _, _, _, _, rfl, ⟨fun g hg => ?_, ?_, fun x y hxy => ?_, by simp [I.few], fun g hg => ?_⟩⟩
    · generalize ruD (P ++ [(keyN OW e.1, keyN OW (bhT T e k))]) = R2 at *
      generalize ruD P = RU at *
      generalize kD (keyN OW e.1) = KK at *
      generalize kD (keyN OW (bhT T e k)) = DD at *
      generalize kD (bhT T e k) = KB at *
      generalize D.lst false (T.map entT) = TD at *
      generalize ownD false OW = OE at *
      generalize houD false h L = HH at *
      simp [gi, fK, fD, putR, pt]
    · rcases List.mem_append.mp hg with z | z
      · exact lookup_done (I.get g z)
      · rw [List.mem_singleton] at z; subst z; exact lookup_new c
    · rw [List.map_append, List.nodup_append]
      refine ⟨I.nd, by simp, fun a ha b hb z => ?_⟩
      simp at hb
      subst hb; subst z
      obtain ⟨p, hp, hpe⟩ := List.mem_map.mp ha
      have : (lkP P (keyN OW e.1)).isSome = true := ru_mem.mp (List.mem_map.mpr ⟨p, hp, by rw [hpe]⟩)
      rw [c] at this; cases this
    · rw [lkP_app] at hxy
      cases c3 : lkP P x with
      | some y' =>
        rw [c3] at hxy; cases hxy
        obtain ⟨g, hg, h1, h2⟩ := I.from_ x y c3
        exact ⟨g, List.mem_append_left _ hg, h1, h2⟩
      | none =>
        rw [c3] at hxy
        have hxy : (if keyN OW e.1 = x then some (keyN OW (bhT T e k)) else none) = some y := hxy
        by_cases c4 : keyN OW e.1 = x
        · rw [if_pos c4] at hxy
          exact ⟨e, by simp, c4, Option.some.inj hxy⟩
        · rw [if_neg c4] at hxy; cases hxy
    · rcases List.mem_append.mp hg with z | z
      · exact I.stay g z
      · rw [List.mem_singleton] at z; subst z; exact hs
  | some y =>
    rw [c] at gi
    have gx := ru_ix c
    have gn := ne_kD (x := y) (y := keyN OW (bhT T e k))
    by_cases c2 : y = keyN OW (bhT T e k)
    · rw [decide_eq_true c2] at gn
      rw [c2] at c
      have pt := ru_put2 hPs I.nd c
      refine .inl ⟨[some (houD false h L), some (.lst false (T.map entT)), some (.int (k : Int)), some (ownD false OW), some (ruD P), some (kD e.1), some (.bl e.2.1), some (kD e.2.2), some (kD (bhT T e k)), w9, some (kD (keyN OW e.1)), some (kD (keyN OW (bhT T e k)))], ?_, _, _, _, _, _, rfl, ⟨fun g hg => ?_, I.nd, fun x y hxy => ?_, by have := I.few; simp; omega, fun g hg => ?_⟩⟩
      · generalize ruD P = RU at *
        generalize kD (keyN OW e.1) = KK at *
        generalize kD (keyN OW (bhT T e k)) = DD at *
        generalize kD (bhT T e k) = KB at *
        generalize D.lst false (T.map entT) = TD at *
        generalize ownD false OW = OE at *
        generalize houD false h L = HH at *
        simp [gi, gx, gn, fK, fD, putR, pt]
      · rcases List.mem_append.mp hg with z | z
        · exact I.get g z
        · rw [List.mem_singleton] at z; subst z; exact c
      · obtain ⟨g, hg, h1, h2⟩ := I.from_ x y hxy
        exact ⟨g, List.mem_append_left _ hg, h1, h2⟩
      · rcases List.mem_append.mp hg with z | z
        · exact I.stay g z
        · rw [List.mem_singleton] at z; subst z; exact hs
    · rw [decide_eq_false c2] at gn
      obtain ⟨g, hg, h1, h2⟩ := I.from_ _ _ c
      refine .inr ⟨.bl false, [some (houD false h L), some (.lst false (T.map entT)), some (.int (k : Int)), some (ownD false OW), some (ruD P), some (kD e.1), some (.bl e.2.1), some (kD e.2.2), some (kD (bhT T e k)), w9, some (kD (keyN OW e.1)), some (kD (keyN OW (bhT T e k)))], ?_, rfl, g, List.mem_append_left _ hg, fun z => c2 ?_⟩
      · generalize ruD P = RU at *
        generalize kD (keyN OW e.1) = KK at *
        generalize kD (keyN OW (bhT T e k)) = DD at *
        generalize kD (bhT T e k) = KB at *
        generalize D.lst false (T.map entT) = TD at *
        generalize ownD false OW = OE at *
        generalize houD false h L = HH at *
        simp [gi, gx, gn]
      · rw [← h2]; exact z.2 h1
theorem da_spec (H : House h L) {T : List Ent} (F : Form h L T) (n600 : T.length ≤ 700) {k : Nat} (hk : k < L.length) {b : Bool} (hb : b = true ↔ Apt h L T k) : ∃ o, m_is_done_apart [houD false h L, .lst false (T.map entT), .int (k : Int)] = .rt (.bl b) o := by
  have l6 := H.l6
  have hix : gIx (houD false h L) (.int 1) = some (.lst false (L.map (entD false))) := hou_ix1
  have hk2 : gIx (.lst false (L.map (entD false))) (.int (k : Int)) = some (entD false L[k]) := by rw [ix_l, at_nat, List.getElem?_map, List.getElem?_eq_getElem hk]; rfl
  have ew : L.getD k (0, []) = L[k] := by rw [List.getD_eq_getElem?_getD, List.getElem?_eq_getElem hk]; rfl
  have h1 : gIx (entD false L[k]) (.int 1) = some (ownD false (L.getD k (0, [])).2) := by rw [ew]; unfold entD; rw [ix_t, at_1]; rfl
  have iO : isImm (ownD false (L.getD k (0, [])).2) = true := imm_own
  have fe : frzs (T.map entT) = T.map entT := frzs_mapf fun _ _ => frz_entT
  have key := loopT (step := stepS (gT 3 (gsC (gN 5) (gsC (gN 6) (gsC (gN 7) gsN)))) l_is_done_apart_2) (f := entT) (T := fun d ρ => d = .bl false ∧ ¬ Apt h L T k)
    (fun xs ρ => ∃ pre P v5 v6 v7 v8 v9 v10 v11, pre ++ xs = T ∧ ρ = [some (houD false h L), some (.lst false (T.map entT)), some (.int (k : Int)), some (ownD false (L.getD k (0, [])).2), some (ruD P), v5, v6, v7, v8, v9, v10, v11] ∧ DaI (L.getD k (0, [])).2 T k h pre P)
    T [some (houD false h L), some (.lst false (T.map entT)), some (.int (k : Int)), some (ownD false (L.getD k (0, [])).2), some (ruD []), none, none, none, none, none, none, none]
    ⟨[], [], none, none, none, none, none, none, none, rfl, rfl, ⟨by simp, by simp, fun x y h => (by cases h), by simp, by simp⟩⟩ (by
      rintro e xs ρ ⟨pre, P, v5, v6, v7, v8, v9, v10, v11, eT, rfl, I⟩
      have he : e ∈ T := by rw [← eT]; simp
      have hpl : pre.length ≤ 700 := by
        have := congrArg List.length eT
        rw [List.length_append] at this
        omega
      rcases da2 H F n600 hk he hpl I (v5 := v5) (v6 := v6) (v7 := v7) (v8 := v8) (v9 := v9) (v10 := v10) (v11 := v11) with ⟨ρ, e1, P', w8, w9, w10, w11, rfl, I'⟩ | ⟨d, ρ, e1, rfl, e', he', hn⟩
      · exact .inl ⟨_, e1, pre ++ [e], P', _, _, _, w8, w9, w10, w11, by simp [← eT], rfl, I'⟩
      · refine .inr ⟨_, _, e1, rfl, fun A => hn ⟨A.stay e he, A.same e' ?_ e he⟩⟩
        rw [← eT]
        rcases List.mem_append.mp he' with z | z
        · exact List.mem_append_left _ z
        · rw [List.mem_singleton] at z; subst z; simp)
  have d0 : D.dcT true [] [] = ruD [] := rfl
  unfold m_is_done_apart; rw [semOf_ap]; unfold b_is_done_apart
  rcases key with ⟨ρ, e, pre, P, v5, v6, v7, v8, v9, v10, v11, eT, rfl, I⟩ | ⟨d, ρ, e, rfl, hn⟩
  · rw [List.append_nil] at eT
    subst eT
    have : b = true := hb.mpr ⟨I.stay, fun e he e' he' hkey => by
      have h1 := I.get e he
      have h2 := I.get e' he'
      rw [hkey, h2] at h1
      exact (Option.some.inj h1).symm⟩
    subst this
    have fTd : frz (D.lst false (pre.map entT)) = .lst false (pre.map entT) := by rw [frz_lst, fe]
    have iTd : itemsX (D.lst false (pre.map entT)) = some (pre.map entT) := by rw [itemsX_l, fe]
    refine ⟨[none, none, none], ?_⟩
    generalize D.lst false (pre.map entT) = TD at *
    generalize pre.map entT = TX at *
    generalize D.lst false (L.map (entD false)) = LE at *
    generalize ownD false (L.getD k (0, [])).2 = OE at *
    generalize houD false h L = HH at *
    simp [-ix_t, hix, hk2, h1, iO, d0, fTd, iTd, e]
  · have : b = false := by
      cases b with
      | false => rfl
      | true => exact (hn (hb.mp rfl)).elim
    subst this
    refine ⟨outsOf [false, false, false] ρ, ?_⟩
    have fTd : frz (D.lst false (T.map entT)) = .lst false (T.map entT) := by rw [frz_lst, fe]
    have iTd : itemsX (D.lst false (T.map entT)) = some (T.map entT) := by rw [itemsX_l, fe]
    generalize D.lst false (T.map entT) = TD at *
    generalize T.map entT = TX at *
    generalize D.lst false (L.map (entD false)) = LE at *
    generalize ownD false (L.getD k (0, [])).2 = OE at *
    generalize houD false h L = HH at *
    simp [-ix_t, hix, hk2, h1, iO, d0, fTd, iTd, e]
def insD (M : List (List Nat)) (x : List Nat) : List (List Nat) := if x ∈ M then M else M ++ [x]
theorem insD_len : ∀ (xs M : List (List Nat)), (xs.foldl insD M).length ≤ M.length + xs.length ∧ ((xs.foldl insD M).length = M.length + xs.length ↔ xs.Nodup ∧ ∀ x ∈ xs, x ∉ M)
  | [], M => by simp
  | x :: xs, M => by
    rw [List.foldl_cons, List.nodup_cons, List.length_cons]
    by_cases c : x ∈ M
    · have e : insD M x = M := by unfold insD; rw [if_pos c]
      obtain ⟨h1, h2⟩ := insD_len xs M
      rw [e]
      refine ⟨by omega, fun z => by omega, fun z => absurd c (z.2 x List.mem_cons_self)⟩
    · have e : insD M x = M ++ [x] := by unfold insD; rw [if_neg c]
      obtain ⟨h1, h2⟩ := insD_len xs (M ++ [x])
      rw [List.length_append, List.length_singleton] at h1 h2
      rw [e]
      refine ⟨by omega, ?_⟩
      rw [show M.length + (xs.length + 1) = M.length + 1 + xs.length by omega, h2]
      constructor
      · rintro ⟨n1, n2⟩
        refine ⟨⟨fun z => ?_, n1⟩, fun y hy => ?_⟩
        · exact n2 x z (by simp)
        · rcases List.mem_cons.mp hy with z | z
          · rw [z]; exact c
          · exact fun w => n2 y z (List.mem_append_left _ w)
      · rintro ⟨⟨n1, n2⟩, n3⟩
        refine ⟨n2, fun y hy w => ?_⟩
        rcases List.mem_append.mp w with w | w
        · exact n3 y (List.mem_cons_of_mem _ hy) w
        · rw [List.mem_singleton] at w; subst w; exact n1 hy
def unD (M : List (List Nat)) : D := .dcT true (M.map kK) (M.map fun _ => .bl true)
theorem repl_bl : ∀ {M : List (List Nat)} {x : List Nat}, replK (M.map kK) (M.map fun _ => D.bl true) (kK x) (.bl true) = M.map fun _ => D.bl true
  | [], x => rfl
  | m :: M, x => by
    rw [List.map_cons, List.map_cons]
    unfold replK
    rw [repl_bl]
    congr 1
    split <;> rfl
theorem un_put {M : List (List Nat)} {x : List Nat} (hl : M.length < sizeLine) : putD (unD M) (kD x) (.bl true) = some (unD (insD M x)) := by
  have e : putD (unD M) (kD x) (.bl true) = match keysOf (x.map natD) with
    | some c => if (M.map fun _ => D.bl true).length < sizeLine then some (.dcT true (putKs (M.map kK) (M.map fun _ => D.bl true) c (.bl true)).1 (putKs (M.map kK) (M.map fun _ => D.bl true) c (.bl true)).2) else none
    | none => none := rfl
  rw [e, keysOf_kK]
  dsimp only
  rw [if_pos (by rw [List.length_map]; exact hl)]
  unfold putKs insD
  have mm : kK x ∈ M.map kK ↔ x ∈ M := by
    rw [List.mem_map]
    exact ⟨fun ⟨y, hy, e⟩ => kK_inj.mp e ▸ hy, fun h => ⟨x, h, rfl⟩⟩
  by_cases c : x ∈ M
  · rw [if_pos (mm.mpr c), if_pos c, repl_bl]; rfl
  · rw [if_neg fun z => c (mm.mp z), if_neg c]
    unfold unD
    rw [List.map_append, List.map_append]; rfl
theorem un_len {M : List (List Nat)} : gLenT [unD M] = some (.int (M.length : Int)) := by
  show some (D.int _) = _
  rw [List.length_map]
theorem pln_nat {x : Nat} : Pln (natD x) := ⟨.int _, sh_int⟩
theorem entT_en {e : Ent} : entT e = enD3 true (e.1.map natD) (.bl e.2.1) true (e.2.2.map natD) := rfl
theorem entT_ok (H : House h L) {e : Ent} {n : Nat} (h1 : e.1.length = h) (h2 : e.2.2.length = L.length) (h3 : ∀ x ∈ e.2.2, x < n) : m_is_entry_tables [houD false h L, entT e, .int (n : Int)] = .rt (.bl true) [none, none, none] := by
  have h4 := H.h4
  have l6 := H.l6
  have q := ent_any H (n := (n : Int)) (tm := true) (tf := true) (ms := e.1.map natD) (fs := e.2.2.map natD) (g := .bl e.2.1) (fun d hd => by obtain ⟨x, _, rfl⟩ := List.mem_map.mp hd; exact pln_nat) ⟨.bl _, sh_bl⟩ (fun d hd => by obtain ⟨x, _, rfl⟩ := List.mem_map.mp hd; exact pln_nat) (by rw [List.length_map]; omega) (by rw [List.length_map]; omega)
  have a1 : (e.1.map natD).all geB = true := by
    rw [List.all_eq_true]; intro d hd; obtain ⟨x, _, rfl⟩ := List.mem_map.mp hd
    have : (0 : Int) ≤ (x : Int) := by omega
    simp [natD, geB, this]
  have a2 : (e.2.2.map natD).all (ltB (n : Int)) = true := by
    rw [List.all_eq_true]; intro d hd; obtain ⟨x, hx, rfl⟩ := List.mem_map.mp hd
    have := h3 x hx
    have c1 : (0 : Int) ≤ (x : Int) := by omega
    have c2 : (x : Int) < (n : Int) := by omega
    simp [natD, ltB, c1, c2]
  rw [entT_en, q]
  unfold entB
  rw [a1, a2, List.length_map, List.length_map, h1, h2]
  simp [isBl]
theorem istab_spec (H : House h L) {T : List Ent} (F : Form h L T) (n1 : 1 ≤ T.length) (n600 : T.length ≤ 600) {b : Bool} (hb : b = true ↔ (T.map (·.1)).Nodup ∧ ∀ k, k < L.length → Apt h L T k) : ∃ o, m_is_table_of [houD false h L, .lst false (T.map entT)] = .rt (.bl b) o := by
  have l6 := H.l6
  have hix : gIx (houD false h L) (.int 1) = some (.lst false (L.map (entD false))) := hou_ix1
  have ll : gLen [.lst false (L.map (entD false))] = some (.int (L.length : Int)) := by rw [len_l, List.length_map]
  have fe : frzs (T.map entT) = T.map entT := frzs_mapf fun _ _ => frz_entT
  have fTd : frz (D.lst false (T.map entT)) = .lst false (T.map entT) := by rw [frz_lst, fe]
  have iTd : itemsX (D.lst false (T.map entT)) = some (T.map entT) := by rw [itemsX_l, fe]
  have il : gIsi [D.lst false (T.map entT), .gv (.ty "list")] = some (.bl true) := isi_lst_list
  have lT : gLen [D.lst false (T.map entT)] = some (.int (T.length : Int)) := by rw [len_l, List.length_map]
  have c1 : (1 : Int) ≤ (T.length : Int) := by omega
  have c2 : (T.length : Int) ≤ 600 := by omega
  have lc1 : fLc (fIt itemsX (fVar 1)) (gN 3) fYes (fCall 3 m_is_entry_tables (fCons (fVar 0) (fCons (fVar 3) (fCons (fI (vOpN gLen (vCons (vVar 1) vNil))) fNil)))) [3] [some (houD false h L), some (.lst false (T.map entT)), none, none, none]
      = .ok (.lst true (T.map fun _ => .bl true)) [some (houD false h L), some (.lst false (T.map entT)), none, none, none] := by
    have fh : frz (houD false h L) = houD false h L := by simp
    have es := fun (e : Ent) (he : e ∈ T) => entT_ok H (F.ml e he) (F.fl e he) (F.flt e he)
    generalize D.lst false (T.map entT) = TD at *
    generalize houD false h L = HH at *
    refine lc_all (g := entT) (by simp [fTd, iTd]) (by simp) (by unfold sizeLine; omega) fun e he => ?_
    have es := es e he
    have fE := frz_entT (e := e)
    generalize entT e = EE at *
    refine ⟨[some HH, some TD, none, some EE, none], by simp, [some HH, some TD, none, some EE, none], ?_, by simp⟩
    simp [-len_l, lT, es, fh, fE]
  have ga1 := all_map_bl (o := true) (fun _ => true) T
  rw [show (T.all fun _ => true) = true by simp] at ga1
  obtain ⟨ρ', lp, M, v3, rfl, eM⟩ := loopM (step := stepS (gN 3) l_is_table_of_1) (f := entT) (xs := T) (ρ := [some (houD false h L), some (.lst false (T.map entT)), some (unD []), none, none])
    (fun j ρ => ∃ (M : List (List Nat)) (v3 : Option D), ρ = [some (houD false h L), some (.lst false (T.map entT)), some (unD M), v3, none] ∧ M = ((T.take j).map (·.1)).foldl insD [])
    ⟨[], none, rfl, by simp⟩ (by
      rintro j e ρ hj ⟨M, v3, rfl, eM⟩
      have hjl := (List.getElem?_eq_some_iff.mp hj).1
      have hM : M.length < sizeLine := by
        have := (insD_len ((T.take j).map (·.1)) []).1
        rw [← eM, List.length_map, List.length_take] at this
        simp at this
        unfold sizeLine; omega
      have pt := un_put (x := e.1) hM
      have e0 := ent_0T (e := e)
      have iK := imm_kD (x := e.1)
      refine ⟨[some (houD false h L), some (.lst false (T.map entT)), some (unD (insD M e.1)), some (entT e), none], ?_, insD M e.1, _, rfl, ?_⟩
      · rw [ap_step]; unfold l_is_table_of_1
        generalize unD (insD M e.1) = U2 at *
        generalize unD M = U1 at *
        generalize kD e.1 = KE at *
        generalize entT e = EE at *
        generalize D.lst false (T.map entT) = TD at *
        generalize houD false h L = HH at *
        simp [e0, iK, putR, pt]
      · rw [List.take_succ, hj]
        show _ = (((T.take j) ++ [e]).map (·.1)).foldl insD []
        rw [List.map_append, List.foldl_append, ← eM]; rfl)
  rw [List.take_length] at eM
  have iM := insD_len (T.map (·.1)) []
  rw [← eM, List.length_map, List.length_nil, Nat.zero_add] at iM
  have gl := un_len (M := M)
  have nd : M.length = T.length ↔ (T.map (·.1)).Nodup := by
    rw [iM.2]
    exact ⟨fun z => z.1, fun z => ⟨z, by simp⟩⟩
  by_cases c : M.length = T.length
  rotate_left
  · have : b = false := by
      cases b with
      | false => rfl
      | true => exact (c (nd.mpr (hb.mp rfl).1)).elim
    subst this
    have lt : gLt (.int (M.length : Int)) (.int (T.length : Int)) = some (.bl true) := by rw [lt_ii, decide_eq_true (by omega)]
    have u0 : D.dcT true [] [] = unD [] := rfl
    refine ⟨[none, none], ?_⟩
    unfold m_is_table_of; rw [semOf_ap]; unfold b_is_table_of
    generalize T.map entT = TX at *
    generalize unD M = UM at *
    generalize unD [] = U0 at *
    generalize (T.map fun _ => D.bl true) = TB at *
    generalize houD false h L = HH at *
    generalize D.lst false TX = TD at *
    simp [-len_l, -lt_ii, -all_l, il, lT, c1, c2, lc1, ga1, u0, fTd, iTd, lp, gl, lt]
  · have lt : gLt (.int (M.length : Int)) (.int (T.length : Int)) = some (.bl false) := by rw [lt_ii, decide_eq_false (by omega)]
    have u0 : D.dcT true [] [] = unD [] := rfl
    classical
    have lc2 : ∀ v3, fLc (fItN rng1 (fCons (fI (vOpN gLen (vCons (vOp2 gIx (vVar 0) (vK (.int 1))) vNil))) fNil)) (gN 4) fYes (fCall 3 m_is_done_apart (fCons (fVar 0) (fCons (fVar 1) (fCons (fVar 4) fNil)))) [4] [some (houD false h L), some (.lst false (T.map entT)), some (unD M), v3, none]
        = .ok (.lst true ((List.range L.length).map fun k => .bl (decide (Apt h L T k)))) [some (houD false h L), some (.lst false (T.map entT)), some (unD M), v3, none] := fun v3 => by
      have rr := rng1_n (n := L.length) (by omega)
      have fh : frz (houD false h L) = houD false h L := by simp
      have ds := fun (k : Nat) (hk : k < L.length) => da_spec H F (by omega) hk (b := decide (Apt h L T k)) decide_eq_true_iff
      generalize D.lst false (L.map (entD false)) = LE at *
      generalize D.lst false (T.map entT) = TD at *
      generalize unD M = UM at *
      generalize houD false h L = HH at *
      refine lc_all (g := fun k : Nat => .int (k : Int)) (e := fun k => .bl (decide (Apt h L T k))) (by simp [-len_l, hix, ll, rr]) (by simp) (by rw [List.length_range]; unfold sizeLine; omega) fun k hk => ?_
      obtain ⟨o, ds⟩ := ds k (List.mem_range.mp hk)
      refine ⟨[some HH, some TD, some UM, v3, some (.int (k : Int))], by simp, [some HH, some TD, some UM, v3, some (.int (k : Int))], ?_, by simp⟩
      simp [ds, fh, fTd]
    have ga2 := all_map_bl (o := true) (fun k => decide (Apt h L T k)) (List.range L.length)
    have eb : (List.range L.length).all (fun k => decide (Apt h L T k)) = b := by
      rw [Bool.eq_iff_iff, hb, List.all_eq_true]
      constructor
      · exact fun z => ⟨nd.mp c, fun k hk => of_decide_eq_true (z k (List.mem_range.mpr hk))⟩
      · exact fun z k hk => decide_eq_true (z.2 k (List.mem_range.mp hk))
    rw [eb] at ga2
    refine ⟨[none, none], ?_⟩
    unfold m_is_table_of; rw [semOf_ap]; unfold b_is_table_of
    generalize T.map entT = TX at *
    generalize unD M = UM at *
    generalize unD [] = U0 at *
    generalize (T.map fun _ => D.bl true) = TB at *
    generalize (List.range L.length).map (fun k => D.bl (decide (Apt h L T k))) = TC at *
    generalize houD false h L = HH at *
    generalize D.lst false TX = TD at *
    simp [-len_l, -lt_ii, -all_l, il, lT, c1, c2, lc1, ga1, u0, fTd, iTd, lp, gl, lt, lc2, ga2]
theorem Tab.apt {T : List Ent} (t : Tab h L T) : (T.map (·.1)).Nodup ∧ ∀ k, k < L.length → Apt h L T k := ⟨t.nd, fun k hk => ⟨fun e he i hi hn => t.stay e he k hk i hi hn, fun e he e' he' hkey => t.same e he e' he' k hk hkey⟩⟩
theorem ru_dget {P : List (List Nat × List Nat)} {x y : List Nat} : getD2 (ruD P) (kD x) (kD y) = some ((lkP P x).elim (kD y) kD) := by
  have e : getD2 (ruD P) (kD x) (kD y) = (keysOf (x.map natD)).bind fun c => if isImms (P.map fun p => kD p.2) = true then some ((getK (P.map fun p => kK p.1) (P.map fun p => kD p.2) c).getD (frz (kD y))) else none := rfl
  rw [e, keysOf_kK, Option.bind_some, if_pos (imms_map fun _ _ => imm_kD), ru_get, frz_kD]
  cases lkP P x <;> rfl
theorem la_lc {ow m : List Nat} (hl : ow.length ≤ 100) (lt : ∀ i ∈ ow, i < m.length) {a : Nat} {v0 v1 v2 v3 v5 v6 v7 v8 v9 v10 v11 v12 v13 : Option D} (ha : [v0, v1, v2, v3, some (ownD false ow), v5, v6, v7, v8, v9, v10, v11, v12, v13][a]? = some (some (kD m))) (h13 : a ≠ 13) (i13 : immO (some v13) = true) :
    fLc (fIt itemsL (fVar 4)) (gN 13) fYes (fI (vOp2 gIx (vVar a) (vVar 13))) [13] [v0, v1, v2, v3, some (ownD false ow), v5, v6, v7, v8, v9, v10, v11, v12, v13]
      = .ok (.lst true (ow.map fun i => natD (m.getD i 0))) [v0, v1, v2, v3, some (ownD false ow), v5, v6, v7, v8, v9, v10, v11, v12, v13] := by
  have oi := own_items (o := false) (xs := ow)
  have fo : frz (ownD false ow) = ownD false ow := frz_own
  refine lc_all (g := natD) (by simp [fo, oi]) (by simp [i13]) (by unfold sizeLine; omega) fun i hi => ?_
  have ka := kD_at (x := m) (i := i) (lt i hi)
  have hv : vVar a [v0, v1, v2, v3, some (ownD false ow), v5, v6, v7, v8, v9, v10, v11, v12, some (natD i)] = some (kD m) := by
    rw [ap_vvar]
    have e1 : [v0, v1, v2, v3, some (ownD false ow), v5, v6, v7, v8, v9, v10, v11, v12, some (natD i)] = ([v0, v1, v2, v3, some (ownD false ow), v5, v6, v7, v8, v9, v10, v11, v12, v13] : Ev).set 13 (some (natD i)) := rfl
    rw [e1, List.getElem?_set_ne (Ne.symm h13), ha]; rfl
  refine ⟨[v0, v1, v2, v3, some (ownD false ow), v5, v6, v7, v8, v9, v10, v11, v12, some (natD i)], rfl, [v0, v1, v2, v3, some (ownD false ow), v5, v6, v7, v8, v9, v10, v11, v12, some (natD i)], ?_, rfl⟩
  rw [ap_I, v2_of hv rfl ka]; rfl
def offB (ow b m : List Nat) (i : Nat) : Bool := !decide (i ∈ ow) && !decide (b.getD i 0 = m.getD i 0)
theorem la_hands (h4 : h ≤ 4) {ow b m : List Nat} (lb : b.length = h) (lm : m.length = h) {v1 v2 v3 v5 v7 v8 v10 v11 v12 v13 : Option D} (i13 : immO (some v13) = true) :
    fLc (fItN rng1 (fCons (fI (vOp2 gIx (vVar 0) (vK (.int 0)))) fNil)) (gN 13) (fAnd (fTv (vOp2 gNin (vVar 13) (vVar 4))) (fTv (vOp2 gNe (vOp2 gIx (vVar 9) (vVar 13)) (vOp2 gIx (vVar 6) (vVar 13))))) (fVar 13) [13]
      [some (houD false h L), v1, v2, v3, some (ownD false ow), v5, some (kD m), v7, v8, some (kD b), v10, v11, v12, v13]
      = .ok (.lst true (((List.range h).filter (offB ow b m)).map fun i : Nat => .int (i : Int))) [some (houD false h L), v1, v2, v3, some (ownD false ow), v5, some (kD m), v7, v8, some (kD b), v10, v11, v12, v13] := by
  have h0 : gIx (houD false h L) (.int 0) = some (.int (h : Int)) := by unfold houD; simp
  have r1 : rng1 [.int (h : Int)] = some ((List.range h).map fun i : Nat => .int (i : Int)) := rng1_n (n := h) (by omega)
  refine lc_map (g := fun i : Nat => D.int (i : Int)) (p := offB ow b m) (e := fun i : Nat => D.int (i : Int)) (by
    generalize houD false h L = HH at *
    simp [-ix_t, h0, r1]) (by simp [i13]) (by rw [List.length_range]; unfold sizeLine; omega) fun i hi => ?_
  have hi := List.mem_range.mp hi
  have ni := nin_of (gd_in (gd := ow) (y := i))
  have ab := kD_at (x := b) (i := i) (by omega)
  have am := kD_at (x := m) (i := i) (by omega)
  have nn : gNe (natD (b.getD i 0)) (natD (m.getD i 0)) = some (.bl (!decide (b.getD i 0 = m.getD i 0))) := ne_nat
  unfold offB
  generalize decide (i ∈ ow) = c1 at *
  generalize decide (b.getD i 0 = m.getD i 0) = c2 at *
  generalize natD (b.getD i 0) = NB at *
  generalize natD (m.getD i 0) = NM at *
  generalize ownD false ow = OW at *
  generalize kD m = KM at *
  generalize kD b = KB at *
  generalize houD false h L = HH at *
  refine ⟨[some HH, v1, v2, v3, some OW, v5, some KM, v7, v8, some KB, v10, v11, v12, some (.int (i : Int))], by simp, [some HH, v1, v2, v3, some OW, v5, some KM, v7, v8, some KB, v10, v11, v12, some (.int (i : Int))], ?_, fun _ => ⟨[some HH, v1, v2, v3, some OW, v5, some KM, v7, v8, some KB, v10, v11, v12, some (.int (i : Int))], by simp, by simp⟩, fun _ => by simp⟩
  cases c1
  · simp [ni, ab, am, nn]
  · simp [ni]
theorem off_none {ow b m : List Nat} : ((List.range h).filter (offB ow b m)).map (fun i : Nat => D.int (i : Int)) = [] ↔ ∀ i, i < h → i ∉ ow → b.getD i 0 = m.getD i 0 := by
  rw [List.map_eq_nil_iff, List.filter_eq_nil_iff]
  constructor
  · intro z i hi hn
    have := z i (List.mem_range.mpr hi)
    unfold offB at this
    rw [decide_eq_false hn] at this
    simpa using this
  · intro z i hi
    have hi := List.mem_range.mp hi
    unfold offB
    by_cases c : i ∈ ow
    · simp [c]
    · rw [z i hi c]; simp
theorem la2 (H : House h L) {T : List Ent} (F : Form h L T) (n600 : T.length ≤ 700) {k : Nat} (hk : k < L.length) {pre : List Ent} {e : Ent} (he : e ∈ T) {P : List (List Nat × List Nat)} (hpl : pre.length ≤ 700) (I : DaI (L.getD k (0, [])).2 T k h pre P) {v3 v6 v7 v8 v9 v10 v11 v12 v13 : Option D} (i13 : immO (some v13) = true) : Goes
    (fun ρ => ∃ P' w9 w10 w11, ρ = [some (houD false h L), some (.lst false (T.map entT)), some (.int (k : Int)), v3, some (ownD false (L.getD k (0, [])).2), some (ruD P'), some (kD e.1), some (.bl e.2.1), some (kD e.2.2), w9, w10, w11, v12, v13] ∧ DaI (L.getD k (0, [])).2 T k h (pre ++ [e]) P')
    (fun d ρ => d = .bl false ∧ ∃ e' ∈ pre ++ [e], ¬ ((∀ i, i < h → i ∉ (L.getD k (0, [])).2 → (bhT T e k).getD i 0 = e.1.getD i 0) ∧ (keyN (L.getD k (0, [])).2 e'.1 = keyN (L.getD k (0, [])).2 e.1 → keyN (L.getD k (0, [])).2 (bhT T e' k) = keyN (L.getD k (0, [])).2 (bhT T e k))))
    (stepS (gT 3 (gsC (gN 6) (gsC (gN 7) (gsC (gN 8) gsN)))) l__law_is_table_1 (entT e) [some (houD false h L), some (.lst false (T.map entT)), some (.int (k : Int)), v3, some (ownD false (L.getD k (0, [])).2), some (ruD P), v6, v7, v8, v9, v10, v11, v12, v13]) := by
  have h4 := H.h4
  have h2 := H.h2
  obtain ⟨f, hf, ix, ef⟩ := bh_at F he hk
  have lb : (bhT T e k).length = h := by rw [← ef]; exact F.ml f hf
  have lm : e.1.length = h := F.ml e he
  have ew : L.getD k (0, []) = L[k] := by rw [List.getD_eq_getElem?_getD, List.getElem?_eq_getElem hk]; rfl
  have wo : Own h (L.getD k (0, [])).2 := by rw [ew]; exact H.own _ (List.getElem_mem hk)
  have wlt := wo.lt
  have few := rise_len (L.getD k (0, [])).2 0 h wo.rise fun x hx => ⟨by omega, wo.lt x hx⟩
  generalize hOW : (L.getD k (0, [])).2 = OW at *
  have fx : gIx (kD e.2.2) (.int (k : Int)) = some (natD (e.2.2.getD k 0)) := kD_at (by rw [F.fl e he]; exact hk)
  have f0 : gIx (entT f) (.int 0) = some (kD (bhT T e k)) := by rw [ent_0T, ef]
  have gt : ∀ v6 v7 v8 : Option D, gT 3 (gsC (gN 6) (gsC (gN 7) (gsC (gN 8) gsN))) (entT e) [some (houD false h L), some (.lst false (T.map entT)), some (.int (k : Int)), v3, some (ownD false OW), some (ruD P), v6, v7, v8, v9, v10, v11, v12, v13] = some [some (houD false h L), some (.lst false (T.map entT)), some (.int (k : Int)), v3, some (ownD false OW), some (ruD P), some (kD e.1), some (.bl e.2.1), some (kD e.2.2), v9, v10, v11, v12, v13] := fun v6 v7 v8 => by unfold entT; simp
  have iB := imm_kD (x := bhT T e k)
  have c0 := fun v10 v11 => la_hands (L := L) h4 (ow := OW) lb lm (v1 := some (.lst false (T.map entT))) (v2 := some (.int (k : Int))) (v3 := v3) (v5 := some (ruD P)) (v7 := some (.bl e.2.1)) (v8 := some (kD e.2.2)) (v10 := v10) (v11 := v11) (v12 := v12) (v13 := v13) i13
  have c1 := fun v10 v11 => la_lc (m := e.1) (ow := OW) (by omega) (by rw [lm]; exact wlt) (a := 6) (v0 := some (houD false h L)) (v1 := some (.lst false (T.map entT))) (v2 := some (.int (k : Int))) (v3 := v3) (v5 := some (ruD P)) (v6 := some (kD e.1)) (v7 := some (.bl e.2.1)) (v8 := some (kD e.2.2)) (v9 := some (kD (bhT T e k))) (v10 := v10) (v11 := v11) (v12 := v12) rfl (by decide) i13
  have c2 := fun v10 v11 => la_lc (m := bhT T e k) (ow := OW) (by omega) (by rw [lb]; exact wlt) (a := 9) (v0 := some (houD false h L)) (v1 := some (.lst false (T.map entT))) (v2 := some (.int (k : Int))) (v3 := v3) (v5 := some (ruD P)) (v6 := some (kD e.1)) (v7 := some (.bl e.2.1)) (v8 := some (kD e.2.2)) (v9 := some (kD (bhT T e k))) (v10 := v10) (v11 := v11) (v12 := v12) rfl (by decide) i13
  have k1 := key_tup (ow := OW) (m := e.1)
  have k2 := key_tup (ow := OW) (m := bhT T e k)
  have on := off_none (h := h) (ow := OW) (b := bhT T e k) (m := e.1)
  have ne0 := ne_nil (m := 1) (by omega) (xs := ((List.range h).filter (offB OW (bhT T e k) e.1)).map fun i : Nat => D.int (i : Int)) fun d hd => by
    obtain ⟨x, _, rfl⟩ := List.mem_map.mp hd
    exact sh_int
  have s0 : 0 ≤ sizeLine := by decide
  have fK := frz_kD (x := keyN OW e.1)
  have iK := imm_kD (x := keyN OW e.1)
  have fD := frz_kD (x := keyN OW (bhT T e k))
  have iD := imm_kD (x := keyN OW (bhT T e k))
  have hPs : P.length < sizeLine := by have := I.few; unfold sizeLine; omega
  have dg := ru_dget (P := P) (x := keyN OW e.1) (y := keyN OW (bhT T e k))
  have iR : isDct (ruD P) = true := rfl
  rw [ap_step, gt, tgR_s]; unfold l__law_is_table_1
  by_cases st : ∀ i, i < h → i ∉ OW → (bhT T e k).getD i 0 = e.1.getD i 0
  rotate_left
  · rw [decide_eq_false (fun z => st (on.mp z))] at ne0
    refine .inr ⟨.bl false, [some (houD false h L), some (.lst false (T.map entT)), some (.int (k : Int)), v3, some (ownD false OW), some (ruD P), some (kD e.1), some (.bl e.2.1), some (kD e.2.2), some (kD (bhT T e k)), v10, v11, v12, v13], ?_, rfl, e, by simp, fun z => st z.1⟩
    clear c1 c2 k1 k2 fK iK fD iD dg
    generalize ((List.range h).filter (offB OW (bhT T e k) e.1)).map (fun i : Nat => D.int (i : Int)) = OFF at *
    generalize ruD P = RU at *
    generalize kD (bhT T e k) = KB at *
    generalize kD e.1 = KE at *
    generalize kD e.2.2 = KF at *
    generalize natD (e.2.2.getD k 0) = NF at *
    generalize D.lst false (T.map entT) = TD at *
    generalize ownD false OW = OE at *
    generalize houD false h L = HH at *
    simp [fx, ix, f0, iB, c0, ne0, s0]
  rw [decide_eq_true (on.mpr st)] at ne0
  have ne0 : gNe (.lst true (((List.range h).filter (offB OW (bhT T e k) e.1)).map fun i : Nat => D.int (i : Int))) (.lst true []) = some (.bl false) := ne0
  cases c : lkP P (keyN OW e.1) with
  | none =>
    rw [c] at dg
    have dg : getD2 (ruD P) (kD (keyN OW e.1)) (kD (keyN OW (bhT T e k))) = some (kD (keyN OW (bhT T e k))) := dg
    have gn := ne_kD (x := keyN OW (bhT T e k)) (y := keyN OW (bhT T e k))
    rw [decide_eq_true rfl] at gn
    have pt := ru_put (y := keyN OW (bhT T e k)) hPs c
    refine .inl ⟨[some (houD false h L), some (.lst false (T.map entT)), some (.int (k : Int)), v3, some (ownD false OW), some (ruD (P ++ [(keyN OW e.1, keyN OW (bhT T e k))])), some (kD e.1), some (.bl e.2.1), some (kD e.2.2), some (kD (bhT T e k)), some (kD (keyN OW e.1)), some (kD (keyN OW (bhT T e k))), v12, v13], ?_, _, _, _, _, rfl, ⟨fun g hg => ?_, ?_, fun x y hxy => ?_, by simp [I.few], fun g hg => ?_⟩⟩
    · generalize ((List.range h).filter (offB OW (bhT T e k) e.1)).map (fun i : Nat => D.int (i : Int)) = OFF at *
      generalize (OW.map fun i => natD (e.1.getD i 0)) = MA at *
      generalize (OW.map fun i => natD ((bhT T e k).getD i 0)) = MB at *
      generalize ruD (P ++ [(keyN OW e.1, keyN OW (bhT T e k))]) = R2 at *
      generalize ruD P = RU at *
      generalize kD (keyN OW e.1) = KK at *
      generalize kD (keyN OW (bhT T e k)) = DD at *
      generalize kD (bhT T e k) = KB at *
      generalize kD e.1 = KE at *
      generalize kD e.2.2 = KF at *
      generalize natD (e.2.2.getD k 0) = NF at *
      generalize D.lst false (T.map entT) = TD at *
      generalize ownD false OW = OE at *
      generalize houD false h L = HH at *
      simp [fx, ix, f0, iB, c0, ne0, s0, c1, k1, c2, k2, fK, iK, fD, iD, ap_dget, dctO, getR, iR, dg, gn, putR, pt]
    · rcases List.mem_append.mp hg with z | z
      · exact lookup_done (I.get g z)
      · rw [List.mem_singleton] at z; subst z; exact lookup_new c
    · rw [List.map_append, List.nodup_append]
      refine ⟨I.nd, by simp, fun a ha b hb z => ?_⟩
      simp at hb
      subst hb; subst z
      obtain ⟨p, hp, hpe⟩ := List.mem_map.mp ha
      have : (lkP P (keyN OW e.1)).isSome = true := ru_mem.mp (List.mem_map.mpr ⟨p, hp, by rw [hpe]⟩)
      rw [c] at this; cases this
    · rw [lkP_app] at hxy
      cases c3 : lkP P x with
      | some y' =>
        rw [c3] at hxy; cases hxy
        obtain ⟨g, hg, h1, h2⟩ := I.from_ x y c3
        exact ⟨g, List.mem_append_left _ hg, h1, h2⟩
      | none =>
        rw [c3] at hxy
        have hxy : (if keyN OW e.1 = x then some (keyN OW (bhT T e k)) else none) = some y := hxy
        by_cases c4 : keyN OW e.1 = x
        · rw [if_pos c4] at hxy
          exact ⟨e, by simp, c4, Option.some.inj hxy⟩
        · rw [if_neg c4] at hxy; cases hxy
    · rcases List.mem_append.mp hg with z | z
      · exact I.stay g z
      · rw [List.mem_singleton] at z; subst z; exact st
  | some y =>
    rw [c] at dg
    have dg : getD2 (ruD P) (kD (keyN OW e.1)) (kD (keyN OW (bhT T e k))) = some (kD y) := dg
    have gn := ne_kD (x := y) (y := keyN OW (bhT T e k))
    have iY := imm_kD (x := y)
    by_cases c2' : y = keyN OW (bhT T e k)
    · rw [decide_eq_true c2'] at gn
      rw [c2'] at c
      have pt := ru_put2 hPs I.nd c
      refine .inl ⟨[some (houD false h L), some (.lst false (T.map entT)), some (.int (k : Int)), v3, some (ownD false OW), some (ruD P), some (kD e.1), some (.bl e.2.1), some (kD e.2.2), some (kD (bhT T e k)), some (kD (keyN OW e.1)), some (kD (keyN OW (bhT T e k))), v12, v13], ?_, _, _, _, _, rfl, ⟨fun g hg => ?_, I.nd, fun x y hxy => ?_, by have := I.few; simp; omega, fun g hg => ?_⟩⟩
      · generalize ((List.range h).filter (offB OW (bhT T e k) e.1)).map (fun i : Nat => D.int (i : Int)) = OFF at *
        generalize (OW.map fun i => natD (e.1.getD i 0)) = MA at *
        generalize (OW.map fun i => natD ((bhT T e k).getD i 0)) = MB at *
        generalize ruD P = RU at *
        generalize kD (keyN OW e.1) = KK at *
        generalize kD (keyN OW (bhT T e k)) = DD at *
        generalize kD y = KY at *
        generalize kD (bhT T e k) = KB at *
        generalize kD e.1 = KE at *
        generalize kD e.2.2 = KF at *
        generalize natD (e.2.2.getD k 0) = NF at *
        generalize D.lst false (T.map entT) = TD at *
        generalize ownD false OW = OE at *
        generalize houD false h L = HH at *
        simp [fx, ix, f0, iB, c0, ne0, s0, c1, k1, c2, k2, fK, iK, fD, iD, ap_dget, dctO, getR, iR, dg, gn, putR, pt]
      · rcases List.mem_append.mp hg with z | z
        · exact I.get g z
        · rw [List.mem_singleton] at z; subst z; exact c
      · obtain ⟨g, hg, h1, h2⟩ := I.from_ x y hxy
        exact ⟨g, List.mem_append_left _ hg, h1, h2⟩
      · rcases List.mem_append.mp hg with z | z
        · exact I.stay g z
        · rw [List.mem_singleton] at z; subst z; exact st
    · rw [decide_eq_false c2'] at gn
      obtain ⟨g, hg, h1, h2⟩ := I.from_ _ _ c
      refine .inr ⟨.bl false, [some (houD false h L), some (.lst false (T.map entT)), some (.int (k : Int)), v3, some (ownD false OW), some (ruD P), some (kD e.1), some (.bl e.2.1), some (kD e.2.2), some (kD (bhT T e k)), some (kD (keyN OW e.1)), some (kD (keyN OW (bhT T e k))), v12, v13], ?_, rfl, g, List.mem_append_left _ hg, fun z => c2' ?_⟩
      · generalize ((List.range h).filter (offB OW (bhT T e k) e.1)).map (fun i : Nat => D.int (i : Int)) = OFF at *
        generalize (OW.map fun i => natD (e.1.getD i 0)) = MA at *
        generalize (OW.map fun i => natD ((bhT T e k).getD i 0)) = MB at *
        generalize ruD P = RU at *
        generalize kD (keyN OW e.1) = KK at *
        generalize kD (keyN OW (bhT T e k)) = DD at *
        generalize kD y = KY at *
        generalize kD (bhT T e k) = KB at *
        generalize kD e.1 = KE at *
        generalize kD e.2.2 = KF at *
        generalize natD (e.2.2.getD k 0) = NF at *
        generalize D.lst false (T.map entT) = TD at *
        generalize ownD false OW = OE at *
        generalize houD false h L = HH at *
        simp [fx, ix, f0, iB, c0, ne0, s0, c1, k1, c2, k2, fK, iK, fD, iD, ap_dget, dctO, getR, iR, dg, gn]
      · rw [← h2]; exact z.2 h1
def kN (x : List Nat) : NestedKey := .tup (x.map fun i : Nat => NestedKey.num (i : Int))
theorem nums_injN : ∀ {x y : List Nat}, x.map (fun i : Nat => NestedKey.num (i : Int)) = y.map (fun i : Nat => NestedKey.num (i : Int)) → x = y
  | [], [], _ => rfl
  | [], _ :: _, h => by cases h
  | _ :: _, [], h => by cases h
  | a :: x, b :: y, h => by
    rw [List.map_cons, List.map_cons, List.cons.injEq] at h
    have h1 : (a : Int) = (b : Int) := by injection h.1
    rw [nums_injN h.2, show a = b by omega]
theorem kN_inj {x y : List Nat} : kN x = kN y ↔ x = y := by
  constructor
  · intro h
    unfold kN at h
    injection h with h
    exact nums_injN h
  · rintro rfl; rfl
theorem nksOf_nats : ∀ x : List Nat, nksOf (x.map natD) = some (x.map fun i : Nat => NestedKey.num (i : Int))
  | [] => rfl
  | a :: x => by
    rw [List.map_cons]
    show (match nkOf (natD a), nksOf (x.map natD) with | some k, some ks => some (k :: ks) | _, _ => none) = _
    rw [nksOf_nats x]; rfl
theorem depth_nats : ∀ x : List Nat, NestedKey.depthAll (x.map fun i : Nat => NestedKey.num (i : Int)) = 0
  | [] => rfl
  | a :: x => by
    rw [List.map_cons]; unfold NestedKey.depthAll
    rw [depth_nats x]; rfl
theorem nkOf_kD {x : List Nat} : nkOf (kD x) = some (kN x) := by
  show (nksOf (x.map natD)).map NestedKey.tup = _
  rw [nksOf_nats]; rfl
theorem dep_kN {x : List Nat} : (kN x).depth ≤ 1 := by
  unfold kN NestedKey.depth
  rw [depth_nats]; omega
theorem nksOf_kDs : ∀ xs : List (List Nat), nksOf (xs.map kD) = some (xs.map kN)
  | [] => rfl
  | x :: xs => by
    rw [List.map_cons, List.map_cons]
    show (match nkOf (kD x), nksOf (xs.map kD) with | some k, some ks => some (k :: ks) | _, _ => none) = _
    rw [nksOf_kDs xs, nkOf_kD]
theorem dist_le {α : Type} [DecidableEq α] : ∀ xs : List α, (dist xs).length ≤ xs.length ∧ ((dist xs).length = xs.length ↔ xs.Nodup)
  | [] => ⟨Nat.le_refl _, by simp [dist]⟩
  | x :: xs => by
    obtain ⟨h1, h2⟩ := dist_le xs
    unfold dist
    by_cases c : x ∈ xs
    · rw [if_pos (dist_mem.mpr c), List.length_cons, List.nodup_cons]
      exact ⟨by omega, ⟨fun z => by omega, fun z => (z.1 c).elim⟩⟩
    · rw [if_neg fun z => c (dist_mem.mp z), List.length_cons, List.length_cons, List.nodup_cons]
      exact ⟨by omega, ⟨fun z => ⟨c, h2.mp (by omega)⟩, fun z => by have := h2.mpr z.2; omega⟩⟩
theorem map_kN_nodup : ∀ {xs : List (List Nat)}, (xs.map kN).Nodup ↔ xs.Nodup
  | [] => by simp
  | x :: xs => by
    rw [List.map_cons, List.nodup_cons, List.nodup_cons, map_kN_nodup (xs := xs)]
    constructor
    · exact fun z => ⟨fun w => z.1 (List.mem_map.mpr ⟨x, w, rfl⟩), z.2⟩
    · exact fun z => ⟨fun w => by obtain ⟨y, hy, e⟩ := List.mem_map.mp w; exact z.1 (kN_inj.mp e ▸ hy), z.2⟩
theorem heads_len {xs : List (List Nat)} (hl : xs.length ≤ 900) : ∃ n : Nat, gLenSetB (.lst true (xs.map kD)) = some (.int (n : Int)) ∧ n ≤ xs.length ∧ (n = xs.length ↔ xs.Nodup) := by
  refine ⟨(dist (xs.map kN)).length, ?_, ?_, ?_⟩
  · show (nksOf (xs.map kD)).bind _ = _
    rw [nksOf_kDs, Option.bind_some, if_pos ⟨by rw [List.length_map]; omega, by
      rw [List.all_eq_true]
      intro k hk
      obtain ⟨x, _, rfl⟩ := List.mem_map.mp hk
      have := dep_kN (x := x)
      rw [decide_eq_true (show (kN x).depth ≤ 8 by omega)]; rfl⟩]
  · have := (dist_le (xs.map kN)).1
    rw [List.length_map] at this; exact this
  · have := (dist_le (xs.map kN)).2
    rw [List.length_map, map_kN_nodup] at this; exact this
theorem la_letter (H : House h L) {T : List Ent} (F : Form h L T) (n600 : T.length ≤ 700) {k : Nat} (hk : k < L.length) {v2 v3 v4 v5 v6 v7 v8 v9 v10 v11 v12 v13 : Option D} (i13 : immO (some v13) = true) : Goes
    (fun ρ => Apt h L T k ∧ ∃ w2 w3 w4 w5 w6 w7 w8 w9 w10 w11, ρ = [some (houD false h L), some (.lst false (T.map entT)), w2, w3, w4, w5, w6, w7, w8, w9, w10, w11, v12, v13])
    (fun d ρ => d = .bl false ∧ ¬ Apt h L T k)
    (stepS (gT 2 (gsC (gN 2) (gsC (gT 2 (gsC (gN 3) (gsC (gN 4) gsN))) gsN))) l__law_is_table_2 (.tup [.int (k : Int), entD false (L.getD k (0, []))]) [some (houD false h L), some (.lst false (T.map entT)), v2, v3, v4, v5, v6, v7, v8, v9, v10, v11, v12, v13]) := by
  have fe : frzs (T.map entT) = T.map entT := frzs_mapf fun _ _ => frz_entT
  have key := loopT (step := stepS (gT 3 (gsC (gN 6) (gsC (gN 7) (gsC (gN 8) gsN)))) l__law_is_table_1) (f := entT) (T := fun d ρ => d = .bl false ∧ ¬ Apt h L T k)
    (fun xs ρ => ∃ pre P v6 v7 v8 v9 v10 v11, pre ++ xs = T ∧ ρ = [some (houD false h L), some (.lst false (T.map entT)), some (.int (k : Int)), some (sgD (L.getD k (0, [])).1), some (ownD false (L.getD k (0, [])).2), some (ruD P), v6, v7, v8, v9, v10, v11, v12, v13] ∧ DaI (L.getD k (0, [])).2 T k h pre P)
    T [some (houD false h L), some (.lst false (T.map entT)), some (.int (k : Int)), some (sgD (L.getD k (0, [])).1), some (ownD false (L.getD k (0, [])).2), some (ruD []), v6, v7, v8, v9, v10, v11, v12, v13]
    ⟨[], [], v6, v7, v8, v9, v10, v11, rfl, rfl, ⟨by simp, by simp, fun x y h => (by cases h), by simp, by simp⟩⟩ (by
      rintro e xs ρ ⟨pre, P, v6, v7, v8, v9, v10, v11, eT, rfl, I⟩
      have he : e ∈ T := by rw [← eT]; simp
      have hpl : pre.length ≤ 700 := by
        have := congrArg List.length eT
        rw [List.length_append] at this
        omega
      rcases la2 H F n600 hk he hpl I (v3 := some (sgD (L.getD k (0, [])).1)) (v6 := v6) (v7 := v7) (v8 := v8) (v9 := v9) (v10 := v10) (v11 := v11) (v12 := v12) i13 with ⟨ρ, e1, P', w9, w10, w11, rfl, I'⟩ | ⟨d, ρ, e1, rfl, e', he', hn⟩
      · exact .inl ⟨_, e1, pre ++ [e], P', _, _, _, w9, w10, w11, by simp [← eT], rfl, I'⟩
      · refine .inr ⟨_, _, e1, rfl, fun A => hn ⟨A.stay e he, A.same e' ?_ e he⟩⟩
        rw [← eT]
        rcases List.mem_append.mp he' with z | z
        · exact List.mem_append_left _ z
        · rw [List.mem_singleton] at z; subst z; simp)
  have d0 : D.dcT true [] [] = ruD [] := rfl
  have ee : entD false (L.getD k (0, [])) = .tup [sgD (L.getD k (0, [])).1, ownD false (L.getD k (0, [])).2] := rfl
  have iO : isImm (ownD false (L.getD k (0, [])).2) = true := imm_own
  have fO : frz (ownD false (L.getD k (0, [])).2) = ownD false (L.getD k (0, [])).2 := frz_own
  have fTd : frz (D.lst false (T.map entT)) = .lst false (T.map entT) := by rw [frz_lst, fe]
  have iTd : itemsX (D.lst false (T.map entT)) = some (T.map entT) := by rw [itemsX_l, fe]
  rw [ee, ap_step]
  unfold l__law_is_table_2
  rcases key with ⟨ρ, e, pre, P, v6', v7', v8', v9', v10', v11', eT, rfl, I⟩ | ⟨d, ρ, e, rfl, hn⟩
  · rw [List.append_nil] at eT
    subst eT
    refine .inl ⟨[some (houD false h L), some (.lst false (pre.map entT)), some (.int (k : Int)), some (sgD (L.getD k (0, [])).1), some (ownD false (L.getD k (0, [])).2), some (ruD P), v6', v7', v8', v9', v10', v11', v12, v13], ?_, ⟨I.stay, fun e he e' he' hkey => ?_⟩, _, _, _, _, _, _, _, _, _, _, rfl⟩
    · generalize D.lst false (pre.map entT) = TD at *
      generalize pre.map entT = TX at *
      generalize ownD false (L.getD k (0, [])).2 = OE at *
      generalize sgD (L.getD k (0, [])).1 = SG at *
      generalize houD false h L = HH at *
      simp [d0, fTd, iTd, e]
    · have h1 := I.get e he
      have h2 := I.get e' he'
      rw [hkey, h2] at h1
      exact (Option.some.inj h1).symm
  · refine .inr ⟨.bl false, ρ, ?_, rfl, hn⟩
    generalize D.lst false (T.map entT) = TD at *
    generalize T.map entT = TX at *
    generalize ownD false (L.getD k (0, [])).2 = OE at *
    generalize sgD (L.getD k (0, [])).1 = SG at *
    generalize houD false h L = HH at *
    simp [d0, fTd, iTd, e]
theorem lent_ok (H : House h L) {e : Ent} {n : Nat} (h1 : e.1.length = h) (h2 : e.2.2.length = L.length) (h3 : ∀ x ∈ e.2.2, x < n) : m__law_is_entry [houD false h L, entT e, .int (n : Int)] = .rt (.bl true) [none, none, none] := by
  have h4 := H.h4
  have l6 := H.l6
  have pm : ∀ d ∈ e.1.map natD, Pln d := fun d hd => by obtain ⟨x, _, rfl⟩ := List.mem_map.mp hd; exact pln_nat
  have pf : ∀ d ∈ e.2.2.map natD, Pln d := fun d hd => by obtain ⟨x, _, rfl⟩ := List.mem_map.mp hd; exact pln_nat
  have a := ent_any H (n := (n : Int)) (tm := true) (tf := true) (g := .bl e.2.1) pm ⟨.bl _, sh_bl⟩ pf (by rw [List.length_map]; omega) (by rw [List.length_map]; omega)
  have b := lent_any H (n := (n : Int)) (tm := true) (tf := true) (g := .bl e.2.1) pm ⟨.bl _, sh_bl⟩ pf (by rw [List.length_map]; omega) (by rw [List.length_map]; omega)
  have c := entT_ok H h1 h2 h3
  rw [entT_en] at c ⊢
  rw [a] at c
  rw [b]
  injection c with c
  rw [c]
theorem lawtab_spec (H : House h L) {T : List Ent} (F : Form h L T) (n1 : 1 ≤ T.length) (n600 : T.length ≤ 600) {b : Bool} (hb : b = true ↔ (T.map (·.1)).Nodup ∧ ∀ k, k < L.length → Apt h L T k) : ∃ o, m__law_is_table [houD false h L, .lst false (T.map entT)] = .rt (.bl b) o := by
  have l6 := H.l6
  have hix : gIx (houD false h L) (.int 1) = some (.lst false (L.map (entD false))) := hou_ix1
  have fe : frzs (T.map entT) = T.map entT := frzs_mapf fun _ _ => frz_entT
  have fTd : frz (D.lst false (T.map entT)) = .lst false (T.map entT) := by rw [frz_lst, fe]
  have iTd : itemsX (D.lst false (T.map entT)) = some (T.map entT) := by rw [itemsX_l, fe]
  have il : gIsi [D.lst false (T.map entT), .gv (.ty "list")] = some (.bl true) := isi_lst_list
  have lT : gLen [D.lst false (T.map entT)] = some (.int (T.length : Int)) := by rw [len_l, List.length_map]
  have c1 : (0 : Int) < (T.length : Int) := by omega
  have c2 : (T.length : Int) < 601 := by omega
  have cc1 : gLt (.int 0) (.int (T.length : Int)) = some (.bl true) := by rw [lt_ii, decide_eq_true c1]
  have cc2 : gLt (.int (T.length : Int)) (.int 601) = some (.bl true) := by rw [lt_ii, decide_eq_true c2]
  have fh : frz (houD false h L) = houD false h L := by simp
  have s0 : 0 ≤ sizeLine := by decide
  have lc1 : fLc (fIt itemsX (fVar 1)) (gN 12) (fNot (fTb (fCall 3 m__law_is_entry (fCons (fVar 0) (fCons (fVar 12) (fCons (fI (vOpN gLen (vCons (vVar 1) vNil))) fNil)))))) (fVar 12) [12] [some (houD false h L), some (.lst false (T.map entT)), none, none, none, none, none, none, none, none, none, none, none, none]
      = .ok (.lst true []) [some (houD false h L), some (.lst false (T.map entT)), none, none, none, none, none, none, none, none, none, none, none, none] := by
    have es := fun (e : Ent) (he : e ∈ T) => lent_ok H (F.ml e he) (F.fl e he) (F.flt e he)
    have e0 : (T.filter fun _ => false).map entT = [] := by simp
    rw [← e0]
    generalize D.lst false (T.map entT) = TD at *
    generalize houD false h L = HH at *
    refine lc_map (g := entT) (p := fun _ => false) (e := entT) (by simp [fTd, iTd]) (by simp) (by unfold sizeLine; omega) fun e he => ?_
    have es := es e he
    have fE := frz_entT (e := e)
    generalize entT e = EE at *
    refine ⟨[some HH, some TD, none, none, none, none, none, none, none, none, none, none, some EE, none], by simp, [some HH, some TD, none, none, none, none, none, none, none, none, none, none, some EE, none], ?_, (fun z => by cases z), fun _ => by simp⟩
    simp [-len_l, lT, es, fh, fE]
  have nn := ne_nil (m := 1) (by omega) (xs := []) fun d hd => by cases hd
  have nn : gNe (.lst true []) (.lst true []) = some (.bl false) := nn
  have lc2 : fLc (fIt itemsX (fVar 1)) (gN 12) fYes (fI (vOp2 gIx (vVar 12) (vK (.int 0)))) [12] [some (houD false h L), some (.lst false (T.map entT)), none, none, none, none, none, none, none, none, none, none, none, none]
      = .ok (.lst true ((T.map (·.1)).map kD)) [some (houD false h L), some (.lst false (T.map entT)), none, none, none, none, none, none, none, none, none, none, none, none] := by
    rw [List.map_map]
    generalize D.lst false (T.map entT) = TD at *
    generalize houD false h L = HH at *
    refine lc_all (g := entT) (e := fun e => kD e.1) (by simp [fTd, iTd]) (by simp) (by unfold sizeLine; omega) fun e he => ?_
    have e0 := ent_0T (e := e)
    have iK := imm_kD (x := e.1)
    generalize kD e.1 = KE at *
    generalize entT e = EE at *
    exact ⟨[some HH, some TD, none, none, none, none, none, none, none, none, none, none, some EE, none], by simp, [some HH, some TD, none, none, none, none, none, none, none, none, none, none, some EE, none], by simp [e0, iK], by simp⟩
  obtain ⟨n, hn, hle, hnd⟩ := heads_len (xs := T.map (·.1)) (by rw [List.length_map]; omega)
  rw [List.length_map] at hle hnd
  by_cases c : n = T.length
  rotate_left
  · have : b = false := by
      cases b with
      | false => rfl
      | true => exact (c (hnd.mpr (hb.mp rfl).1)).elim
    subst this
    have lt : gLt (.int (n : Int)) (.int (T.length : Int)) = some (.bl true) := by rw [lt_ii, decide_eq_true (by omega)]
    refine ⟨[none, none], ?_⟩
    unfold m__law_is_table; rw [semOf_ap]; unfold b__law_is_table
    generalize (T.map (·.1)).map kD = HD at *
    generalize T.map entT = TX at *
    generalize D.lst false TX = TD at *
    generalize houD false h L = HH at *
    simp [-len_l, -lt_ii, il, lT, cc1, cc2, lc1, nn, s0, lc2, hn, lt]
  have lt : gLt (.int (n : Int)) (.int (T.length : Int)) = some (.bl false) := by rw [lt_ii, decide_eq_false (by omega)]
  have nd := hnd.mp c
  have iE : isImm (.lst false (L.map (entD false))) = true := imms_map fun _ _ => imm_ent
  have en : enumL [.lst false (L.map (entD false))] = some ((List.range L.length).map fun k => .tup [.int (k : Int), entD false (L.getD k (0, []))]) := by
    have q := enum_map (f := entD false) (0, []) L 0
    have fl : frzs (L.map (entD false)) = L.map (entD false) := frzs_mapf fun _ _ => frz_ent
    show some (enumD 0 (frzs (L.map (entD false)))) = _
    rw [fl, q]
    simp
  have key := loopT (step := stepS (gT 2 (gsC (gN 2) (gsC (gT 2 (gsC (gN 3) (gsC (gN 4) gsN))) gsN))) l__law_is_table_2) (f := fun k : Nat => .tup [.int (k : Int), entD false (L.getD k (0, []))]) (T := fun d ρ => d = .bl false ∧ ¬ ∀ k, k < L.length → Apt h L T k)
    (fun xs ρ => ∃ j, xs = (List.range L.length).drop j ∧ j ≤ L.length ∧ (∀ k, k < j → Apt h L T k) ∧ ∃ w2 w3 w4 w5 w6 w7 w8 w9 w10 w11, ρ = [some (houD false h L), some (.lst false (T.map entT)), w2, w3, w4, w5, w6, w7, w8, w9, w10, w11, none, none])
    (List.range L.length) [some (houD false h L), some (.lst false (T.map entT)), none, none, none, none, none, none, none, none, none, none, none, none]
    ⟨0, rfl, Nat.zero_le _, fun k hk => by omega, none, none, none, none, none, none, none, none, none, none, rfl⟩ (by
      rintro k0 xs ρ ⟨j, e, hj, hold, w2, w3, w4, w5, w6, w7, w8, w9, w10, w11, rfl⟩
      have hjl : j < L.length := by
        rcases Nat.lt_or_ge j L.length with z | z
        · exact z
        · rw [List.drop_eq_nil_of_le (by rw [List.length_range]; exact z)] at e; cases e
      rw [List.drop_eq_getElem_cons (by rw [List.length_range]; exact hjl), List.getElem_range] at e
      obtain ⟨e1, e2⟩ := List.cons.inj e
      rw [e1, e2]
      clear e e1 e2
      rcases la_letter H F (by omega) hjl (v2 := w2) (v3 := w3) (v4 := w4) (v5 := w5) (v6 := w6) (v7 := w7) (v8 := w8) (v9 := w9) (v10 := w10) (v11 := w11) (v12 := none) (v13 := none) rfl with ⟨ρ, e, A, u2, u3, u4, u5, u6, u7, u8, u9, u10, u11, rfl⟩ | ⟨d, ρ, e, rfl, hn⟩
      · refine .inl ⟨_, e, j + 1, rfl, hjl, fun k hk => ?_, _, _, _, _, _, _, _, _, _, _, rfl⟩
        by_cases z : k = j
        · subst z; exact A
        · exact hold k (by omega)
      · exact .inr ⟨_, _, e, rfl, fun z => hn (z j hjl)⟩)
  rcases key with ⟨ρ, e, j, e2, hj, hold, w2, w3, w4, w5, w6, w7, w8, w9, w10, w11, rfl⟩ | ⟨d, ρ, e, rfl, hno⟩
  · have hjl : j = L.length := by
      have := congrArg List.length e2
      rw [List.length_drop, List.length_range] at this
      simp at this; omega
    subst hjl
    have : b = true := hb.mpr ⟨nd, hold⟩
    subst this
    refine ⟨[none, none], ?_⟩
    unfold m__law_is_table; rw [semOf_ap]; unfold b__law_is_table
    generalize (T.map (·.1)).map kD = HD at *
    generalize (List.range L.length).map (fun k : Nat => D.tup [.int (k : Int), entD false (L.getD k (0, []))]) = EL at *
    generalize D.lst false (L.map (entD false)) = LE at *
    generalize T.map entT = TX at *
    generalize D.lst false TX = TD at *
    generalize houD false h L = HH at *
    simp [-len_l, -lt_ii, il, lT, cc1, cc2, lc1, nn, s0, lc2, hn, lt, hix, iE, en, e]
  · have : b = false := by
      cases b with
      | false => rfl
      | true => exact (hno (hb.mp rfl).2).elim
    subst this
    refine ⟨outsOf [false, false] ρ, ?_⟩
    unfold m__law_is_table; rw [semOf_ap]; unfold b__law_is_table
    generalize (T.map (·.1)).map kD = HD at *
    generalize (List.range L.length).map (fun k : Nat => D.tup [.int (k : Int), entD false (L.getD k (0, []))]) = EL at *
    generalize D.lst false (L.map (entD false)) = LE at *
    generalize T.map entT = TX at *
    generalize D.lst false TX = TD at *
    generalize houD false h L = HH at *
    simp [-len_l, -lt_ii, il, lT, cc1, cc2, lc1, nn, s0, lc2, hn, lt, hix, iE, en, e]
inductive EntC : D → Prop
  | three {tm tf : Bool} {ms fs : List D} {g : D} (pm : ∀ d ∈ ms, Pln d) (pg : Pln g) (pf : ∀ d ∈ fs, Pln d) (lm : ms.length ≤ 1000) (lf : fs.length ≤ 1000) : EntC (enD3 tm ms g tf fs)
  | odd {d : D} (p : Pln d) (h3 : three d = false) : EntC d
theorem sh_sq {t : Bool} {ds : List D} (h : ∀ d ∈ ds, Pln d) : Sh 21 (sqD t ds) := by
  cases t
  · exact sh_lst fun d hd => (h d hd).sh
  · exact sh_tup fun d hd => (h d hd).sh
theorem EntC.sh {d : D} (c : EntC d) : Sh 22 d := by
  cases c with
  | three pm pg pf _ _ =>
    refine sh_tup (n := 21) fun d hd => ?_
    simp only [List.mem_cons, List.not_mem_nil, or_false] at hd
    rcases hd with rfl | rfl | rfl
    · exact sh_sq pm
    · exact pg.sh.mono (by omega)
    · exact sh_sq pf
  | odd p _ => exact p.sh.mono (by omega)
theorem EntC.imm {d : D} (c : EntC d) : isImm d = true := by
  cases c with
  | @three tm tf ms fs g pm pg pf _ _ =>
    have h1 := sq_imm (t := tm) (imms_pln pm)
    have h2 := sq_imm (t := tf) (imms_pln pf)
    have h3 := pg.imm
    unfold enD3
    rw [imm_tup]
    simp [h1, h2, h3]
  | odd p _ => exact p.imm
theorem nats_of : ∀ {ds : List D}, ds.all geB = true → ∃ xs : List Nat, ds = xs.map natD
  | [], _ => ⟨[], rfl⟩
  | d :: ds, h => by
    rw [List.all_cons, Bool.and_eq_true] at h
    obtain ⟨xs, rfl⟩ := nats_of h.2
    cases d with
    | int z =>
      have hz : 0 ≤ z := by simpa [geB] using h.1
      refine ⟨z.toNat :: xs, ?_⟩
      rw [List.map_cons]
      unfold natD
      rw [Int.toNat_of_nonneg hz]
    | _ => simp [geB] at h
theorem nats_lt : ∀ {ds : List D} {n : Nat}, ds.all (ltB (n : Int)) = true → ∃ xs : List Nat, ds = xs.map natD ∧ ∀ x ∈ xs, x < n
  | [], _, _ => ⟨[], rfl, fun x hx => by cases hx⟩
  | d :: ds, n, h => by
    rw [List.all_cons, Bool.and_eq_true] at h
    obtain ⟨xs, rfl, hx⟩ := nats_lt h.2
    cases d with
    | int z =>
      have hz : 0 ≤ z ∧ z < (n : Int) := by simpa [ltB] using h.1
      refine ⟨z.toNat :: xs, ?_, fun x hx' => ?_⟩
      · rw [List.map_cons]
        unfold natD
        rw [Int.toNat_of_nonneg hz.1]
      · rcases List.mem_cons.mp hx' with rfl | q
        · omega
        · exact hx x q
    | _ => simp [ltB] at h
/-- what an entry must be -/
def EntOk (h : Nat) (L : List (Nat × List Nat)) (n : Nat) (d : D) : Prop := ∃ e : Ent, d = entT e ∧ e.1.length = h ∧ e.2.2.length = L.length ∧ ∀ x ∈ e.2.2, x < n
theorem ent_told (H : House h L) {d : D} (c : EntC d) (n : Nat) : ∃ b : Bool, m_is_entry_tables [houD false h L, d, .int (n : Int)] = .rt (.bl b) [none, none, none] ∧ m__law_is_entry [houD false h L, d, .int (n : Int)] = .rt (.bl b) [none, none, none] ∧ (b = true → EntOk h L n d) := by
  cases c with
  | @three tm tf ms fs g pm pg pf lm lf =>
    refine ⟨_, ent_any H pm pg pf lm lf, lent_any H pm pg pf lm lf, fun hb => ?_⟩
    unfold entB at hb
    simp only [Bool.and_eq_true, decide_eq_true_eq] at hb
    obtain ⟨⟨⟨⟨hg, htm, hl⟩, htf, hl2⟩, ha⟩, hb⟩ := hb
    obtain ⟨xs, rfl⟩ := nats_of ha
    obtain ⟨ys, rfl, hy⟩ := nats_lt hb
    subst htm htf
    cases g with
    | bl b =>
      rw [List.length_map] at hl hl2
      exact ⟨(xs, b, ys), rfl, hl, hl2, hy⟩
    | _ => simp [isBl] at hg
  | odd p h3 => exact ⟨false, ent_odd p h3, lent_odd p h3, fun z => by cases z⟩
theorem ents_of {n : Nat} : ∀ {DS : List D}, (∀ d ∈ DS, EntOk h L n d) → ∃ T : List Ent, DS = T.map entT ∧ (∀ e ∈ T, e.1.length = h) ∧ (∀ e ∈ T, e.2.2.length = L.length) ∧ ∀ e ∈ T, ∀ x ∈ e.2.2, x < n
  | [], _ => ⟨[], rfl, fun e he => (by cases he), fun e he => (by cases he), fun e he => by cases he⟩
  | d :: DS, hh => by
    obtain ⟨T, rfl, h1, h2, h3⟩ := ents_of fun e he => hh e (List.mem_cons_of_mem _ he)
    obtain ⟨e, rfl, g1, g2, g3⟩ := hh d List.mem_cons_self
    refine ⟨e :: T, rfl, fun f hf => ?_, fun f hf => ?_, fun f hf => ?_⟩
    · rcases List.mem_cons.mp hf with rfl | q
      · exact g1
      · exact h1 f q
    · rcases List.mem_cons.mp hf with rfl | q
      · exact g2
      · exact h2 f q
    · rcases List.mem_cons.mp hf with rfl | q
      · exact g3
      · exact h3 f q
theorem imms_all : ∀ {ds : List D}, (∀ d ∈ ds, isImm d = true) → isImms ds = true
  | [], _ => rfl
  | d :: ds, h => by
    have h1 := h d List.mem_cons_self
    have h2 := imms_all (ds := ds) fun e he => h e (List.mem_cons_of_mem _ he)
    simp [h1, h2]
theorem look_list (H : House h L) {DS : List D} (hc : ∀ d ∈ DS, EntC d) (n1 : 1 ≤ DS.length) (n600 : DS.length ≤ 600) : ∃ (b : Bool), (∃ o, m_is_table_of [houD false h L, .lst false DS] = .rt (.bl b) o) ∧ ∃ o, m__law_is_table [houD false h L, .lst false DS] = .rt (.bl b) o := by
  obtain ⟨f, hf⟩ := Classical.skolem.mp (fun d : D => show ∃ b : Bool, d ∈ DS → m_is_entry_tables [houD false h L, d, .int (DS.length : Int)] = .rt (.bl b) [none, none, none] ∧ m__law_is_entry [houD false h L, d, .int (DS.length : Int)] = .rt (.bl b) [none, none, none] ∧ (b = true → EntOk h L DS.length d) by
    by_cases c : d ∈ DS
    · obtain ⟨b, q⟩ := ent_told H (hc d c) DS.length
      exact ⟨b, fun _ => q⟩
    · exact ⟨true, fun z => (c z).elim⟩)
  by_cases all : DS.all f = true
  · have ok : ∀ d ∈ DS, EntOk h L DS.length d := fun d hd => (hf d hd).2.2 (List.all_eq_true.mp all d hd)
    obtain ⟨T, eT, h1, h2, h3⟩ := ents_of ok
    have lT : T.length = DS.length := by rw [eT, List.length_map]
    have F : Form h L T := ⟨h1, h2, by rw [lT]; exact h3⟩
    classical
    obtain ⟨o1, q1⟩ := istab_spec H F (by omega) (by omega) (b := decide ((T.map (·.1)).Nodup ∧ ∀ k, k < L.length → Apt h L T k)) decide_eq_true_iff
    obtain ⟨o2, q2⟩ := lawtab_spec H F (by omega) (by omega) (b := decide ((T.map (·.1)).Nodup ∧ ∀ k, k < L.length → Apt h L T k)) decide_eq_true_iff
    rw [eT]
    exact ⟨_, ⟨o1, q1⟩, o2, q2⟩
  have all : DS.all f = false := by simpa using all
  have im : isImms DS = true := imms_all fun d hd => (hc d hd).imm
  have fd := frzs_imm _ im
  have fTd : frz (D.lst false DS) = .lst false DS := by rw [frz_lst, fd]
  have iTd : itemsX (D.lst false DS) = some DS := by rw [itemsX_l, fd]
  have il : gIsi [D.lst false DS, .gv (.ty "list")] = some (.bl true) := isi_lst_list
  have lT : gLen [D.lst false DS] = some (.int (DS.length : Int)) := len_l
  have fh : frz (houD false h L) = houD false h L := by simp
  have s0 : 0 ≤ sizeLine := by decide
  refine ⟨false, ⟨[none, none], ?_⟩, [none, none], ?_⟩
  · have cc1 : gLe (.int 1) (.int (DS.length : Int)) = some (.bl true) := by rw [le_ii, decide_eq_true (by omega)]
    have cc2 : gLe (.int (DS.length : Int)) (.int 600) = some (.bl true) := by rw [le_ii, decide_eq_true (by omega)]
    have lc1 : fLc (fIt itemsX (fVar 1)) (gN 3) fYes (fCall 3 m_is_entry_tables (fCons (fVar 0) (fCons (fVar 3) (fCons (fI (vOpN gLen (vCons (vVar 1) vNil))) fNil)))) [3] [some (houD false h L), some (.lst false DS), none, none, none]
        = .ok (.lst true (DS.map fun d => .bl (f d))) [some (houD false h L), some (.lst false DS), none, none, none] := by
      generalize hD : D.lst false DS = TD at *
      generalize houD false h L = HH at *
      refine lc_all (g := fun d => d) (by rw [List.map_id' DS]; simp [fTd, iTd]) (by simp) (by unfold sizeLine; omega) fun d hd => ?_
      obtain ⟨es, _, _⟩ := hf d hd
      have fe := frz_imm _ (hc d hd).imm
      refine ⟨[some HH, some TD, none, some d, none], by simp, [some HH, some TD, none, some d, none], ?_, by simp⟩
      simp [-len_l, lT, es, fh, fe]
    have ga1 := all_map_bl (o := true) f DS
    rw [all] at ga1
    unfold m_is_table_of; rw [semOf_ap]; unfold b_is_table_of
    generalize (DS.map fun d => D.bl (f d)) = BB at *
    generalize hD : D.lst false DS = TD at *
    generalize houD false h L = HH at *
    simp [-len_l, -all_l, -le_ii, il, lT, cc1, cc2, lc1, ga1]
  · have cc1 : gLt (.int 0) (.int (DS.length : Int)) = some (.bl true) := by rw [lt_ii, decide_eq_true (by omega)]
    have cc2 : gLt (.int (DS.length : Int)) (.int 601) = some (.bl true) := by rw [lt_ii, decide_eq_true (by omega)]
    have lc1 : fLc (fIt itemsX (fVar 1)) (gN 12) (fNot (fTb (fCall 3 m__law_is_entry (fCons (fVar 0) (fCons (fVar 12) (fCons (fI (vOpN gLen (vCons (vVar 1) vNil))) fNil)))))) (fVar 12) [12] [some (houD false h L), some (.lst false DS), none, none, none, none, none, none, none, none, none, none, none, none]
        = .ok (.lst true (DS.filter fun d => !f d)) [some (houD false h L), some (.lst false DS), none, none, none, none, none, none, none, none, none, none, none, none] := by
      rw [← List.map_id' (DS.filter fun d => !f d)]
      generalize hD : D.lst false DS = TD at *
      generalize houD false h L = HH at *
      refine lc_map (g := fun d => d) (p := fun d => !f d) (e := fun d => d) (by rw [List.map_id' DS]; simp [fTd, iTd]) (by simp) (by unfold sizeLine; omega) fun d hd => ?_
      obtain ⟨_, es, _⟩ := hf d hd
      have fe := frz_imm _ (hc d hd).imm
      refine ⟨[some HH, some TD, none, none, none, none, none, none, none, none, none, none, some d, none], by simp, [some HH, some TD, none, none, none, none, none, none, none, none, none, none, some d, none], ?_, fun _ => ⟨[some HH, some TD, none, none, none, none, none, none, none, none, none, none, some d, none], by simp [fe], by simp⟩, fun _ => by simp⟩
      simp [-len_l, lT, es, fh, fe]
    have nn := ne_nil (m := 22) (by omega) (xs := DS.filter fun d => !f d) fun d hd => (hc d (List.mem_filter.mp hd).1).sh
    rw [none_left, all] at nn
    have nn : gNe (.lst true (DS.filter fun d => !f d)) (.lst true []) = some (.bl true) := nn
    unfold m__law_is_table; rw [semOf_ap]; unfold b__law_is_table
    generalize (DS.filter fun d => !f d) = BB at *
    generalize hD : D.lst false DS = TD at *
    generalize houD false h L = HH at *
    simp [-len_l, -lt_ii, il, lT, cc1, cc2, lc1, nn, s0]
/-- what is no list, or has no entry -/
theorem look_none {d : D} (hd : gIsi [d, .gv (.ty "list")] = some (.bl false) ∨ d = .lst false []) (i : isImm d = true) : (∃ o, m_is_table_of [houD false h L, d] = .rt (.bl false) o) ∧ ∃ o, m__law_is_table [houD false h L, d] = .rt (.bl false) o := by
  generalize houD false h L = HH at *
  rcases hd with hd | rfl
  · refine ⟨⟨[none, none], ?_⟩, [none, none], ?_⟩
    · unfold m_is_table_of; rw [semOf_ap]; unfold b_is_table_of
      simp [hd]
    · unfold m__law_is_table; rw [semOf_ap]; unfold b__law_is_table
      simp [hd]
  · have hd : gIsi [.lst false [], .gv (.ty "list")] = some (.bl true) := isi_lst_list
    refine ⟨⟨[none, none], ?_⟩, [none, none], ?_⟩
    · unfold m_is_table_of; rw [semOf_ap]; unfold b_is_table_of
      simp [hd]
    · unfold m__law_is_table; rw [semOf_ap]; unfold b__law_is_table
      simp [hd]
def oddL : List D := [.int (-1), .int 1000000000000000000000000000000, .bl true, .bl false, .non, .str "0", .int 0, .int 1, .int 2, .tup [.int 0], .lst false [.int 0], .tup [], .int 3, .int 80, .int 81, .int 599]
theorem strOk_0 : ∀ c ∈ ("0" : Str).cps.toList, c < 0x110000 := by decide
theorem odd_pln : ∀ d ∈ oddL, Pln d ∧ three d = false := by
  have one : ∀ d ∈ [D.int 0], Sh 19 d := fun d hd => by rw [List.mem_singleton] at hd; subst hd; exact sh_int
  intro d hd
  unfold oddL at hd
  simp only [List.mem_cons, List.not_mem_nil, or_false] at hd
  rcases hd with rfl | rfl | rfl | rfl | rfl | rfl | rfl | rfl | rfl | rfl | rfl | rfl | rfl | rfl | rfl | rfl
  · exact ⟨⟨.int _, sh_int⟩, rfl⟩
  · exact ⟨⟨.int _, sh_int⟩, rfl⟩
  · exact ⟨⟨.bl _, sh_bl⟩, rfl⟩
  · exact ⟨⟨.bl _, sh_bl⟩, rfl⟩
  · exact ⟨⟨.non, sh_non⟩, rfl⟩
  · exact ⟨⟨.str _, sh_str strOk_0⟩, rfl⟩
  · exact ⟨⟨.int _, sh_int⟩, rfl⟩
  · exact ⟨⟨.int _, sh_int⟩, rfl⟩
  · exact ⟨⟨.int _, sh_int⟩, rfl⟩
  · exact ⟨⟨.tup rfl, sh_tup one⟩, rfl⟩
  · exact ⟨⟨.lst rfl, sh_lst one⟩, rfl⟩
  · exact ⟨⟨.tup rfl, sh_tup fun d hd => by cases hd⟩, rfl⟩
  · exact ⟨⟨.int _, sh_int⟩, rfl⟩
  · exact ⟨⟨.int _, sh_int⟩, rfl⟩
  · exact ⟨⟨.int _, sh_int⟩, rfl⟩
  · exact ⟨⟨.int _, sh_int⟩, rfl⟩
theorem mod_small {n m : Nat} (h : n < m) : gMod (.int (n : Int)) (.int (m : Int)) = some (.int (n : Int)) := by
  have : Int.fmod (n : Int) (m : Int) = n := by rw [Int.fmod_eq_emod_of_nonneg _ (by omega)]; exact Int.emod_eq_of_lt (by omega) (by omega)
  have hm : ¬ ((m : Int) = 0) := by omega
  have hm2 : ¬ m = 0 := by omega
  simp [this, hm2]
theorem odd_spec {n : Nat} (hn : n < 16) : ∃ d, m__law_odd [.int (n : Int)] = .rt d [none] ∧ Pln d ∧ three d = false := by
  have hl : n < oddL.length := hn
  have hm := List.getElem_mem hl
  have md : gMod (.int (n : Int)) (.int 16) = some (.int (n : Int)) := mod_small (m := 16) hn
  have pw : gPow (.int 10) (.int 30) = some (.int (10 ^ 30)) := by
    have c1 : CPow 10 30 := ⟨by decide, by decide, by decide⟩
    simp [c1]
  have z30 : ∀ k : Nat, k ≤ 30 → k ≤ sizeLine := fun k h => Nat.le_trans h (by decide)
  obtain ⟨p, h3⟩ := odd_pln _ hm
  have im := p.imm
  have ix : gIxI (.lst false oddL) (.int (n : Int)) = some oddL[n] := ixI_of (by rw [ix_l, at_nat, List.getElem?_eq_getElem hl]) im
  refine ⟨oddL[n], ?_, p, h3⟩
  generalize oddL[n] = d at *
  unfold m__law_odd; rw [semOf_ap]; unfold b__law_odd
  unfold oddL at ix
  simp [-ix_l, -mod_ii, md, pw, z30, ix]
def Thing (d : D) : Prop := (∃ DS, frz d = .lst false DS ∧ (∀ x ∈ DS, EntC x) ∧ 1 ≤ DS.length ∧ DS.length ≤ 600) ∨ (isImm (frz d) = true ∧ (gIsi [frz d, .gv (.ty "list")] = some (.bl false) ∨ frz d = .lst false []))
theorem pln_nats {xs : List Nat} : ∀ d ∈ xs.map natD, Pln d := fun d hd => by obtain ⟨x, _, rfl⟩ := List.mem_map.mp hd; exact pln_nat
theorem entC_ent {e : Ent} (l1 : e.1.length ≤ 1000) (l2 : e.2.2.length ≤ 1000) : EntC (entT e) := .three (tm := true) (tf := true) pln_nats ⟨.bl _, sh_bl⟩ pln_nats (by rw [List.length_map]; exact l1) (by rw [List.length_map]; exact l2)
theorem thing_set {T : List Ent} (hT : ∀ e ∈ T, EntC (entT e)) (l1 : 1 ≤ T.length) (l600 : T.length ≤ 600) {i : Nat} {x y : D} (fx : frz x = y) (hx : EntC y) : Thing (.lst true ((T.map entT).set i x)) := by
  refine .inl ⟨(T.map entT).set i y, ?_, fun d hd => ?_, by rw [List.length_set, List.length_map]; exact l1, by rw [List.length_set, List.length_map]; exact l600⟩
  · rw [frz_lst, frzs_map, List.map_set, fx, List.map_map]
    congr 2
    exact List.map_congr_left fun e _ => frz_entT
  · rcases List.mem_or_eq_of_mem_set hd with h | rfl
    · obtain ⟨e, he, rfl⟩ := List.mem_map.mp h; exact hT e he
    · exact hx
theorem tl_to {xs : List D} (i : isImms xs = true) {p : Nat} (hp : p < xs.length) : gSl (.tup xs) none (some (p : Int)) = some (.tup (xs.take p)) := by
  unfold gSl
  dsimp only
  rw [HT.sIx_none, HT.sIx_nat, Nat.min_eq_left (by omega), if_pos ⟨i, fun z => by omega⟩]
  unfold Hap.cutD
  rw [HT.sIx_none, HT.sIx_nat, List.drop_zero, Nat.sub_zero, Nat.min_eq_left (by omega)]
theorem tl_from {xs : List D} (i : isImms xs = true) {p : Nat} (hp : p + 1 ≤ xs.length) : gSl (.tup xs) (some ((p : Int) + 1)) none = some (.tup (xs.drop (p + 1))) := by
  rw [show (p : Int) + 1 = ((p + 1 : Nat) : Int) by omega]
  unfold gSl
  dsimp only
  rw [HT.sIx_none, HT.sIx_nat, Nat.min_eq_left hp, if_pos ⟨i, fun z => by omega⟩]
  unfold Hap.cutD
  rw [HT.sIx_none, HT.sIx_nat, Nat.min_eq_left hp, List.take_of_length_le (by rw [List.length_drop]; omega)]
/-- one place of a tuple exchanged -/
def swD (xs : List Nat) (k : Nat) (x : D) : List D := (xs.take k).map natD ++ [x] ++ (xs.drop (k + 1)).map natD
theorem swD_pln {xs : List Nat} {k : Nat} {x : D} (p : Pln x) : ∀ d ∈ swD xs k x, Pln d := fun d hd => by
  unfold swD at hd
  rcases List.mem_append.mp hd with h | h
  · rcases List.mem_append.mp h with h | h
    · exact pln_nats d h
    · rw [List.mem_singleton] at h; subst h; exact p
  · exact pln_nats d h
theorem swD_len {xs : List Nat} {k : Nat} {x : D} (hk : k < xs.length) : (swD xs k x).length = xs.length := by
  unfold swD
  simp
  omega
theorem swD_add {xs : List Nat} {k : Nat} {x : D} (p : Pln x) (hk : k < xs.length) (hl : xs.length ≤ 100) : gSl (kD xs) none (some (k : Int)) = some (.tup ((xs.take k).map natD)) ∧ gSl (kD xs) (some ((k : Int) + 1)) none = some (.tup ((xs.drop (k + 1)).map natD)) ∧
    gAddT (.tup ((xs.take k).map natD)) (.tup [x]) = some (.tup ((xs.take k).map natD ++ [x])) ∧ gAddT (.tup ((xs.take k).map natD ++ [x])) (.tup ((xs.drop (k + 1)).map natD)) = some (.tup (swD xs k x)) := by
  have im : ∀ ys : List Nat, isImms (ys.map natD) = true := fun ys => imms_map fun _ _ => rfl
  have ix := p.imm
  have sz : ∀ n : Nat, n ≤ 300 → n ≤ sizeLine := fun n h => Nat.le_trans h (by decide)
  refine ⟨?_, ?_, ?_, ?_⟩
  · unfold kD; rw [tl_to (im _) (by rw [List.length_map]; exact hk), List.map_take]
  · unfold kD; rw [tl_from (im _) (by rw [List.length_map]; omega), List.map_drop]
  · rw [add_tt, if_pos ⟨⟨im _, by simp [ix]⟩, sz _ (by simp; omega)⟩]
  · rw [add_tt, if_pos ⟨⟨isImms_app (im _) (by simp [ix]), im _⟩, sz _ (by simp; omega)⟩]; rfl
def sp4 : Ev → RS :=
  (fSetL 0 (fTup (fCons (fVar 4) (fCons (fVar 5) (fCons (fOp2 gAddT (fOp2 gAddT (fSl (fVar 6) fO0 (fO (fVar 9))) (fTup (fCons (fOp2 gIxI (fFz (fLst (fCons (fVar 7) (fCons (fCallIO 1 2 m__law_take (fCons (fI (vOpN gLen (vCons (vVar 0) vNil))) fNil)) fNil)))) (fI (vOp2 gMod (vVar 2) (vK (.int 2))))) fNil))) (fSl (fVar 6) (fO (fI (vOp2 gAdd (vVar 9) (vK (.int 1))))) fO0)) fNil)))) (fVar 3))
def sp7 : Ev → RS :=
  (fSetL 0 (fTup (fCons (fOp2 gAddT (fOp2 gAddT (fSl (fVar 4) fO0 (fO (fVar 8))) (fTup (fCons (fOp2 gIxI (fFz (fLst (fCons (fVar 7) (fCons (fCallIO 1 2 m__law_take (fCons (fK (.int 4)) fNil)) (fCons (fK (.int 7)) fNil))))) (fI (vOp2 gSub (vVar 2) (vK (.int 4))))) fNil))) (fSl (fVar 4) (fO (fI (vOp2 gAdd (vVar 8) (vK (.int 1))))) fO0)) (fCons (fVar 5) (fCons (fVar 6) fNil)))) (fVar 3))
def spG : Ev → RS :=
  (fSetL 0 (fTup (fCons (fVar 4) (fCons (fVar 7) (fCons (fVar 6) fNil)))) (fVar 3))
def spE : Ev → RS :=
  (fSetL 0 (fVar 7) (fVar 3))
def spA : Ev → RS :=
  (fAppend 0 (fCons (fI (vOp2 gIx (vVar 0) (vVar 3))) fNil))
def spP : Ev → RS :=
  (fDrop (fPopA 0 (fCons (fVar 3) fNil)))
def spM : Ev → RS :=
  (fSetL 0 (fTup (fCons (fOpN gList (fCons (fVar 4) fNil)) (fCons (fVar 5) (fCons (fVar 6) fNil)))) (fVar 3))
def spF : Ev → RS :=
  (fSetL 0 (fTup (fCons (fVar 4) (fCons (fVar 5) (fCons (fOpN gList (fCons (fVar 6) fNil)) fNil)))) (fVar 3))
def spN : Ev → RS :=
  (fSetL 0 (fTup (fCons (fVar 4) (fCons (fNotD (fVar 5)) (fCons (fVar 6) fNil)))) (fVar 3))
def spL : Ev → RS :=
  (fSetL 0 (fLst (fCons (fVar 4) (fCons (fVar 5) (fCons (fVar 6) fNil)))) (fVar 3))
def spO : Ev → RS :=
  (fAsg (fOp2 gIxI (fFz (fLst (fCons (fOpNV gTuple (vCons (vVar 0) vNil)) (fCons (fK .non) (fCons (fLst fNil) (fCons (fK (.str "")) (fCons (fK (.int 5)) (fCons (fLst (fCons (fK .non) fNil)) fNil)))))))) (fCallIO 1 2 m__law_take (fCons (fK (.int 6)) fNil))) (gN 0))
def spB : Ev → RS := (fIf (fTv (vOp2 gLt (vVar 2) (vK (.int 4)))) sp4 (fIf (fTv (vOp2 gLt (vVar 2) (vK (.int 7)))) sp7 (fIf (fTv (vOp2 gEq (vVar 2) (vK (.int 7)))) spG (fIf (fTv (vOp2 gEq (vVar 2) (vK (.int 8)))) spE (fIf (fTv (vOp2 gEq (vVar 2) (vK (.int 9)))) spA (fIf (fTv (vOp2 gEq (vVar 2) (vK (.int 10)))) spP (fIf (fTv (vOp2 gEq (vVar 2) (vK (.int 11)))) spM (fIf (fTv (vOp2 gEq (vVar 2) (vK (.int 12)))) spF (fIf (fTv (vOp2 gEq (vVar 2) (vK (.int 13)))) spN (fIf (fTv (vOp2 gEq (vVar 2) (vK (.int 14)))) spL spO))))))))))
theorem spo_seq : b__law_spoilt = (fSeq (fAsg (fOpNV gList (vCons (vVar 0) vNil)) (gN 0))
    (fSeq (fAsg (fCallIO 1 2 m__law_take (fCons (fK (.int 16)) fNil)) (gN 2))
    (fSeq (fAsg (fCallIO 1 2 m__law_take (fCons (fI (vOpN gLen (vCons (vVar 0) vNil))) fNil)) (gN 3))
    (fSeq (fAsg (fI (vOp2 gIx (vVar 0) (vVar 3))) (gT 3 (gsC (gN 4) (gsC (gN 5) (gsC (gN 6) gsN)))))
    (fSeq (fAsg (fCall 1 m__law_odd (fCons (fCallIO 1 2 m__law_take (fCons (fK (.int 16)) fNil)) fNil)) (gN 7))
    (fSeq (fAsg (fCallIO 1 2 m__law_take (fCons (fI (vOpN gLen (vCons (vVar 4) vNil))) fNil)) (gN 8))
    (fSeq (fAsg (fCallIO 1 2 m__law_take (fCons (fI (vOpN gLen (vCons (vVar 6) vNil))) fNil)) (gN 9))
    (fSeq spB
    (fRet (fMv 0)))))))))) := rfl
section
variable {T : List Ent} {e : Ent} {g od : D} {w at_ j k n : Nat}
def spS (T : List Ent) (g : D) (w at_ : Nat) (e : Ent) (od : D) (j k : Nat) : Ev := [some (.lst true (T.map entT)), some g, some (.int (w : Int)), some (.int (at_ : Int)), some (kD e.1), some (.bl e.2.1), some (kD e.2.2), some od, some (.int (j : Int)), some (.int (k : Int))]
def spZ (d g : D) (w at_ : Nat) (e : Ent) (od : D) (j k : Nat) : Ev := [some d, some g, some (.int (w : Int)), some (.int (at_ : Int)), some (kD e.1), some (.bl e.2.1), some (kD e.2.2), some od, some (.int (j : Int)), some (.int (k : Int))]
structure SpI (T : List Ent) (g : D) (at_ : Nat) (e : Ent) (od : D) (j k n : Nat) : Prop where
  all : ∀ f ∈ T, EntC (entT f)
  n1 : 1 ≤ T.length
  n81 : T.length ≤ 81
  at_ : T[at_]? = some e
  hb : Bag n g
  hn : n < 2 ^ 40
  po : Pln od
  ho : three od = false
  hj : j < e.1.length
  hk : k < e.2.2.length
  l1 : e.1.length ≤ 100
  l2 : e.2.2.length ≤ 100
theorem SpI.lt (I : SpI T g at_ e od j k n) : at_ < T.length := (List.getElem?_eq_some_iff.mp I.at_).1
theorem SpI.ss (I : SpI T g at_ e od j k n) {X : D} {ρ : Ev} : setS (some (some (.lst true (T.map entT)))) 0 X (.int (at_ : Int)) ρ = .nx (ρ.set 0 (some (.lst true ((T.map entT).set at_ X)))) := setS_n (by rw [List.length_map]; exact I.lt)
theorem mod2 : gMod (.int (w : Int)) (.int 2) = some (.int ((w % 2 : Nat) : Int)) := by
  have : Int.fmod (w : Int) 2 = ((w % 2 : Nat) : Int) := by rw [Int.fmod_eq_emod_of_nonneg _ (by decide)]; omega
  simp [this]
theorem sp4_ok (I : SpI T g at_ e od j k n) : ∃ d g', sp4 (spS T g w at_ e od j k) = .nx (spZ d g' w at_ e od j k) ∧ Thing d := by
  obtain ⟨r, g', hr, hb', tk⟩ := take_spec (m := (T.length : Int)) I.hb (by have := I.hn; omega) (by have := I.n1; omega) (by have := I.n81; omega)
  obtain ⟨x, px, ix⟩ : ∃ x, Pln x ∧ gIxI (.lst false [od, .int (r : Int)]) (.int ((w % 2 : Nat) : Int)) = some x := by
    have : w % 2 = 0 ∨ w % 2 = 1 := by omega
    rcases this with h | h
    · exact ⟨od, I.po, by rw [h]; exact ixI_of (by rw [ix_l]; rfl) I.po.imm⟩
    · exact ⟨.int (r : Int), ⟨.int _, sh_int⟩, by rw [h]; exact ixI_of (by rw [ix_l, at_nat]; rfl) rfl⟩
  obtain ⟨a1, a2, a3, a4⟩ := swD_add (x := x) px I.hk I.l2
  have gl : gLen [.lst true (T.map entT)] = some (.int (T.length : Int)) := by rw [len_l, List.length_map]
  have md := mod2 (w := w)
  have fo := I.po.frz
  have s1 : 1 ≤ sizeLine := by decide
  have s2 : 2 ≤ sizeLine := by decide
  have s3 : 3 ≤ sizeLine := by decide
  have ss := fun X ρ => I.ss (X := X) (ρ := ρ)
  have f1 := frz_kD (x := e.1)
  have f2 := frz_kD (x := e.2.2)
  have ic := swD_pln (xs := e.2.2) (k := k) px
  refine ⟨.lst true ((T.map entT).set at_ (enD3 true (e.1.map natD) (.bl e.2.1) true (swD e.2.2 k x))), g', ?_, thing_set I.all I.n1 (by have := I.n81; omega) (frz_imm _ (EntC.imm (.three pln_nats ⟨.bl _, sh_bl⟩ ic (by rw [List.length_map]; have := I.l1; omega) (by rw [swD_len I.hk]; have := I.l2; omega)))) (.three pln_nats ⟨.bl _, sh_bl⟩ ic (by rw [List.length_map]; have := I.l1; omega) (by rw [swD_len I.hk]; have := I.l2; omega))⟩
  have eN : enD3 true (e.1.map natD) (.bl e.2.1) true (swD e.2.2 k x) = .tup [kD e.1, .bl e.2.1, .tup (swD e.2.2 k x)] := rfl
  rw [eN]
  unfold sp4 spS spZ
  generalize ((w % 2 : Nat) : Int) = w2 at *
  generalize swD e.2.2 k x = SW at *
  generalize (e.2.2.take k).map natD ++ [x] = P1 at *
  generalize (e.2.2.take k).map natD = P0 at *
  generalize (e.2.2.drop (k + 1)).map natD = P2 at *
  generalize kD e.1 = KM at *
  generalize kD e.2.2 = KF at *
  generalize T.map entT = TX at *
  simp [-ix_l, -mod_ii, -len_l, gl, tk, md, fo, ix, a1, a2, a3, a4, f1, f2, s1, s2, s3, ss]
theorem sp7_ok (I : SpI T g at_ e od j k n) (h4 : 4 ≤ w) (h7 : w < 7) : ∃ d g', sp7 (spS T g w at_ e od j k) = .nx (spZ d g' w at_ e od j k) ∧ Thing d := by
  obtain ⟨r, g', hr, hb', tk⟩ := take_spec (m := 4) I.hb (by have := I.hn; omega) (by omega) (by omega)
  obtain ⟨x, px, ix⟩ : ∃ x, Pln x ∧ gIxI (.lst false [od, .int (r : Int), .int 7]) (.int ((w - 4 : Nat) : Int)) = some x := by
    have : w - 4 = 0 ∨ w - 4 = 1 ∨ w - 4 = 2 := by omega
    rcases this with h | h | h
    · exact ⟨od, I.po, by rw [h]; exact ixI_of (by rw [ix_l]; rfl) I.po.imm⟩
    · exact ⟨.int (r : Int), ⟨.int _, sh_int⟩, by rw [h]; exact ixI_of (by rw [ix_l, at_nat]; rfl) rfl⟩
    · exact ⟨.int 7, ⟨.int _, sh_int⟩, by rw [h]; exact ixI_of (by rw [ix_l, at_nat]; rfl) rfl⟩
  obtain ⟨a1, a2, a3, a4⟩ := swD_add (x := x) px I.hj I.l1
  have sb : gSub (.int (w : Int)) (.int 4) = some (.int ((w - 4 : Nat) : Int)) := by
    have : (w : Int) - 4 = ((w - 4 : Nat) : Int) := by omega
    simp [this]
  have fo := I.po.frz
  have s1 : 1 ≤ sizeLine := by decide
  have s3 : 3 ≤ sizeLine := by decide
  have ss := fun X ρ => I.ss (X := X) (ρ := ρ)
  have f1 := frz_kD (x := e.1)
  have f2 := frz_kD (x := e.2.2)
  have ic := swD_pln (xs := e.1) (k := j) px
  have ec : EntC (enD3 true (swD e.1 j x) (.bl e.2.1) true (e.2.2.map natD)) := .three ic ⟨.bl _, sh_bl⟩ pln_nats (by rw [swD_len I.hj]; have := I.l1; omega) (by rw [List.length_map]; have := I.l2; omega)
  refine ⟨.lst true ((T.map entT).set at_ (enD3 true (swD e.1 j x) (.bl e.2.1) true (e.2.2.map natD))), g', ?_, thing_set I.all I.n1 (by have := I.n81; omega) (frz_imm _ ec.imm) ec⟩
  have eN : enD3 true (swD e.1 j x) (.bl e.2.1) true (e.2.2.map natD) = .tup [.tup (swD e.1 j x), .bl e.2.1, kD e.2.2] := rfl
  rw [eN]
  unfold sp7 spS spZ
  clear eN ec ic
  generalize ((w - 4 : Nat) : Int) = w2 at *
  generalize swD e.1 j x = SW at *
  generalize (e.1.take j).map natD ++ [x] = P1 at *
  generalize (e.1.take j).map natD = P0 at *
  generalize (e.1.drop (j + 1)).map natD = P2 at *
  generalize kD e.1 = KM at *
  generalize kD e.2.2 = KF at *
  generalize T.map entT = TX at *
  have tk : m__law_take [g, .int 4] = .rt (.int (r : Int)) [some g', none] := tk
  simp [-ix_l, -sub_ii, tk, sb, fo, ix, a1, a2, a3, a4, f1, f2, s1, s3, ss]
theorem spG_ok (I : SpI T g at_ e od j k n) : ∃ d g', spG (spS T g w at_ e od j k) = .nx (spZ d g' w at_ e od j k) ∧ Thing d := by
  have s3 : 3 ≤ sizeLine := by decide
  have ss := fun X ρ => I.ss (X := X) (ρ := ρ)
  have f1 := frz_kD (x := e.1)
  have f2 := frz_kD (x := e.2.2)
  have fo := I.po.frz
  have ec : EntC (enD3 true (e.1.map natD) od true (e.2.2.map natD)) := .three pln_nats I.po pln_nats (by rw [List.length_map]; have := I.l1; omega) (by rw [List.length_map]; have := I.l2; omega)
  refine ⟨.lst true ((T.map entT).set at_ (enD3 true (e.1.map natD) od true (e.2.2.map natD))), g, ?_, thing_set I.all I.n1 (by have := I.n81; omega) (frz_imm _ ec.imm) ec⟩
  have eN : enD3 true (e.1.map natD) od true (e.2.2.map natD) = .tup [kD e.1, od, kD e.2.2] := rfl
  rw [eN]
  unfold spG spS spZ
  generalize kD e.1 = KM at *
  generalize kD e.2.2 = KF at *
  generalize T.map entT = TX at *
  simp [fo, f1, f2, s3, ss]
theorem spE_ok (I : SpI T g at_ e od j k n) : ∃ d g', spE (spS T g w at_ e od j k) = .nx (spZ d g' w at_ e od j k) ∧ Thing d := by
  have ss := fun X ρ => I.ss (X := X) (ρ := ρ)
  have fo := I.po.frz
  refine ⟨.lst true ((T.map entT).set at_ od), g, ?_, thing_set I.all I.n1 (by have := I.n81; omega) fo (.odd I.po I.ho)⟩
  unfold spE spS spZ
  generalize kD e.1 = KM at *
  generalize kD e.2.2 = KF at *
  generalize T.map entT = TX at *
  simp [fo, ss]
theorem spN_ok (I : SpI T g at_ e od j k n) : ∃ d g', spN (spS T g w at_ e od j k) = .nx (spZ d g' w at_ e od j k) ∧ Thing d := by
  have s3 : 3 ≤ sizeLine := by decide
  have ss := fun X ρ => I.ss (X := X) (ρ := ρ)
  have f1 := frz_kD (x := e.1)
  have f2 := frz_kD (x := e.2.2)
  have ec : EntC (entT (e.1, !e.2.1, e.2.2)) := entC_ent (show e.1.length ≤ 1000 from by have := I.l1; omega) (show e.2.2.length ≤ 1000 from by have := I.l2; omega)
  refine ⟨.lst true ((T.map entT).set at_ (entT (e.1, !e.2.1, e.2.2))), g, ?_, thing_set I.all I.n1 (by have := I.n81; omega) frz_entT ec⟩
  have eN : entT (e.1, !e.2.1, e.2.2) = .tup [kD e.1, .bl (!e.2.1), kD e.2.2] := rfl
  rw [eN]
  unfold spN spS spZ
  generalize kD e.1 = KM at *
  generalize kD e.2.2 = KF at *
  generalize T.map entT = TX at *
  simp [f1, f2, s3, ss]
theorem gl_kD {xs : List Nat} : gList [kD xs] = some (.lst true (xs.map natD)) := if_pos (imms_map fun _ _ => rfl)
theorem fz_nats {o : Bool} {xs : List Nat} : frz (.lst o (xs.map natD)) = .lst false (xs.map natD) := by rw [frz_lst, frzs_pln pln_nats]
theorem spM_ok (I : SpI T g at_ e od j k n) : ∃ d g', spM (spS T g w at_ e od j k) = .nx (spZ d g' w at_ e od j k) ∧ Thing d := by
  have s3 : 3 ≤ sizeLine := by decide
  have ss := fun X ρ => I.ss (X := X) (ρ := ρ)
  have f1 := frz_kD (x := e.1)
  have f2 := frz_kD (x := e.2.2)
  have gl := gl_kD (xs := e.1)
  have ec : EntC (enD3 false (e.1.map natD) (.bl e.2.1) true (e.2.2.map natD)) := .three pln_nats ⟨.bl _, sh_bl⟩ pln_nats (by rw [List.length_map]; have := I.l1; omega) (by rw [List.length_map]; have := I.l2; omega)
  have fx : frz (.tup [.lst true (e.1.map natD), .bl e.2.1, kD e.2.2]) = enD3 false (e.1.map natD) (.bl e.2.1) true (e.2.2.map natD) := by
    have q := fz_nats (o := true) (xs := e.1)
    rw [frz_tup]
    show D.tup [frz (.lst true (e.1.map natD)), .bl e.2.1, frz (kD e.2.2)] = _
    rw [q, f2]; rfl
  refine ⟨.lst true ((T.map entT).set at_ (.tup [.lst true (e.1.map natD), .bl e.2.1, kD e.2.2])), g, ?_, thing_set I.all I.n1 (by have := I.n81; omega) fx ec⟩
  unfold spM spS spZ
  clear fx ec
  generalize e.1.map natD = NM at *
  generalize kD e.1 = KM at *
  generalize kD e.2.2 = KF at *
  generalize T.map entT = TX at *
  simp [f1, f2, gl, s3, ss]
theorem spF_ok (I : SpI T g at_ e od j k n) : ∃ d g', spF (spS T g w at_ e od j k) = .nx (spZ d g' w at_ e od j k) ∧ Thing d := by
  have s3 : 3 ≤ sizeLine := by decide
  have ss := fun X ρ => I.ss (X := X) (ρ := ρ)
  have f1 := frz_kD (x := e.1)
  have f2 := frz_kD (x := e.2.2)
  have gl := gl_kD (xs := e.2.2)
  have ec : EntC (enD3 true (e.1.map natD) (.bl e.2.1) false (e.2.2.map natD)) := .three pln_nats ⟨.bl _, sh_bl⟩ pln_nats (by rw [List.length_map]; have := I.l1; omega) (by rw [List.length_map]; have := I.l2; omega)
  have fx : frz (.tup [kD e.1, .bl e.2.1, .lst true (e.2.2.map natD)]) = enD3 true (e.1.map natD) (.bl e.2.1) false (e.2.2.map natD) := by
    have q := fz_nats (o := true) (xs := e.2.2)
    rw [frz_tup]
    show D.tup [frz (kD e.1), .bl e.2.1, frz (.lst true (e.2.2.map natD))] = _
    rw [q, f1]; rfl
  refine ⟨.lst true ((T.map entT).set at_ (.tup [kD e.1, .bl e.2.1, .lst true (e.2.2.map natD)])), g, ?_, thing_set I.all I.n1 (by have := I.n81; omega) fx ec⟩
  unfold spF spS spZ
  clear fx ec
  generalize e.2.2.map natD = NM at *
  generalize kD e.1 = KM at *
  generalize kD e.2.2 = KF at *
  generalize T.map entT = TX at *
  simp [f1, f2, gl, s3, ss]
theorem spL_ok (I : SpI T g at_ e od j k n) : ∃ d g', spL (spS T g w at_ e od j k) = .nx (spZ d g' w at_ e od j k) ∧ Thing d := by
  have s3 : 3 ≤ sizeLine := by decide
  have ss := fun X ρ => I.ss (X := X) (ρ := ρ)
  have f1 := frz_kD (x := e.1)
  have f2 := frz_kD (x := e.2.2)
  have pl : Pln (.lst false [kD e.1, .bl e.2.1, kD e.2.2]) := ⟨.lst (by simp), sh_lst (n := 19) fun d hd => by
    simp only [List.mem_cons, List.not_mem_nil, or_false] at hd
    rcases hd with rfl | rfl | rfl
    · exact sh_tup (n := 18) fun d hd => by obtain ⟨x, _, rfl⟩ := List.mem_map.mp hd; exact sh_int
    · exact sh_bl
    · exact sh_tup (n := 18) fun d hd => by obtain ⟨x, _, rfl⟩ := List.mem_map.mp hd; exact sh_int⟩
  have fx : frz (.lst true [kD e.1, .bl e.2.1, kD e.2.2]) = .lst false [kD e.1, .bl e.2.1, kD e.2.2] := by simp
  refine ⟨.lst true ((T.map entT).set at_ (.lst true [kD e.1, .bl e.2.1, kD e.2.2])), g, ?_, thing_set I.all I.n1 (by have := I.n81; omega) fx (.odd pl rfl)⟩
  unfold spL spS spZ
  clear fx pl
  generalize kD e.1 = KM at *
  generalize kD e.2.2 = KF at *
  generalize T.map entT = TX at *
  simp [f1, f2, s3, ss]
theorem spA_ok (I : SpI T g at_ e od j k n) : ∃ d g', spA (spS T g w at_ e od j k) = .nx (spZ d g' w at_ e od j k) ∧ Thing d := by
  have ix : gIx (.lst true (T.map entT)) (.int (at_ : Int)) = some (entT e) := by rw [ix_l, at_nat, List.getElem?_map, I.at_]; rfl
  have iE := imm_entT (e := e)
  have e0 : T.map entT ++ [entT e] = (T ++ [e]).map entT := by rw [List.map_append]; rfl
  have sz : ¬ ¬ (T.map entT).length < sizeLine := by
    have := I.n81
    rw [List.length_map]; unfold sizeLine; omega
  have ap : ∀ ρ, appS (some (some (.lst true (T.map entT)))) 0 (entT e) ρ = .nx (ρ.set 0 (some (.lst true (T.map entT ++ [entT e])))) := fun ρ => by
    unfold appS
    dsimp only
    rw [if_pos (Classical.not_not.mp sz)]
  have is0 : ∀ r : RS, isLs (some (some (.lst true (T.map entT)))) r = r := fun _ => rfl
  refine ⟨.lst true (T.map entT ++ [entT e]), g, ?_, .inl ⟨(T ++ [e]).map entT, ?_, fun d hd => ?_, by simp, by simp; have := I.n81; omega⟩⟩
  · unfold spA spS spZ
    generalize T.map entT = TX at *
    generalize entT e = EE at *
    generalize kD e.1 = KM at *
    generalize kD e.2.2 = KF at *
    simp [-appS_s, -ix_l, ix, iE, ap, is0]
  · rw [e0, frz_lst, frzs_mapf fun _ _ => frz_entT]
  · obtain ⟨f, hf, rfl⟩ := List.mem_map.mp hd
    rcases List.mem_append.mp hf with h | h
    · exact I.all f h
    · rw [List.mem_singleton] at h; subst h; exact I.all _ (List.mem_of_getElem? I.at_)
theorem spP_ok (I : SpI T g at_ e od j k n) : ∃ d g', spP (spS T g w at_ e od j k) = .nx (spZ d g' w at_ e od j k) ∧ Thing d := by
  have lt := I.lt
  have ix : ixN (T.map entT).length (at_ : Int) = some at_ := by unfold ixN; rw [List.length_map, if_pos (by omega), if_pos (by omega)]; simp
  have ge : (T.map entT)[at_]? = some (entT e) := by rw [List.getElem?_map, I.at_]; rfl
  have iE := imm_entT (e := e)
  have sz : (T.map entT).length ≤ sizeLine := by
    have := I.n81
    rw [List.length_map]; unfold sizeLine; omega
  have pp : ∀ ρ : Ev, popD (T.map entT) 0 at_ ρ = .ok (entT e) (ρ.set 0 (some (.lst true ((T.map entT).eraseIdx at_)))) := fun ρ => by
    unfold popD
    rw [ge]
    dsimp only
    rw [if_pos ⟨iE, sz⟩]
  have fe : frz (.lst true ((T.map entT).eraseIdx at_)) = .lst false ((T.map entT).eraseIdx at_) := by
    rw [frz_lst, frzs_map]
    congr 1
    conv => rhs; rw [← List.map_id ((T.map entT).eraseIdx at_)]
    refine List.map_congr_left fun d hd => ?_
    obtain ⟨f, _, rfl⟩ := List.mem_map.mp (List.mem_of_mem_eraseIdx hd)
    exact frz_entT
  refine ⟨.lst true ((T.map entT).eraseIdx at_), g, ?_, ?_⟩
  · unfold spP spS spZ
    generalize T.map entT = TX at *
    generalize entT e = EE at *
    generalize kD e.1 = KM at *
    generalize kD e.2.2 = KF at *
    simp [ix, pp, natR]
  · have le := List.length_eraseIdx_of_lt (l := T.map entT) (i := at_) (by rw [List.length_map]; exact lt)
    rw [List.length_map] at le
    by_cases c : T.length = 1
    · refine .inr ⟨?_, .inr ?_⟩
      · rw [fe, List.eq_nil_of_length_eq_zero (l := (T.map entT).eraseIdx at_) (by omega)]; rfl
      · rw [fe, List.eq_nil_of_length_eq_zero (l := (T.map entT).eraseIdx at_) (by omega)]
    · refine .inl ⟨_, fe, fun d hd => ?_, by have := I.n1; omega, by have := I.n81; omega⟩
      obtain ⟨f, hf, rfl⟩ := List.mem_map.mp (List.mem_of_mem_eraseIdx hd)
      exact I.all f hf
end
section
variable {T : List Ent} {e : Ent} {g od : D} {w at_ j k n : Nat}
theorem spO_ok (I : SpI T g at_ e od j k n) : ∃ d g', spO (spS T g w at_ e od j k) = .nx (spZ d g' w at_ e od j k) ∧ Thing d := by
  obtain ⟨r, g', hr, hb', tk⟩ := take_spec (m := 6) I.hb (by have := I.hn; omega) (by omega) (by omega)
  have tk : m__law_take [g, .int 6] = .rt (.int (r : Int)) [some g', none] := tk
  have iT : isImms (T.map entT) = true := imms_map fun _ _ => imm_entT
  have fT : frzs (T.map entT) = T.map entT := frzs_imm _ iT
  have gt : gTuple [.lst true (T.map entT)] = some (.tup (T.map entT)) := if_pos iT
  have s0 : ∀ m : Nat, m ≤ 30 → m ≤ sizeLine := fun m h => Nat.le_trans h (by decide)
  obtain ⟨L6, hL6⟩ : ∃ L6 : List D, L6 = [.tup (T.map entT), .non, .lst false [], .str "", .int 5, .lst false [.non]] := ⟨_, rfl⟩
  have hr6 : r < L6.length := by rw [hL6]; have : r < 6 := by omega
                                 exact this
  have all : ∀ d ∈ L6, isImm d = true ∧ Thing d := fun d hd => by
    rw [hL6] at hd
    simp only [List.mem_cons, List.not_mem_nil, or_false] at hd
    rcases hd with rfl | rfl | rfl | rfl | rfl | rfl
    · have i : isImm (.tup (T.map entT)) = true := by rw [imm_tup]; exact iT
      exact ⟨i, .inr ⟨by rw [frz_imm _ i]; exact i, .inl (by rw [frz_imm _ i]; exact isi_tup_list)⟩⟩
    · exact ⟨rfl, .inr ⟨rfl, .inl isi_non_list⟩⟩
    · exact ⟨rfl, .inr ⟨rfl, .inr rfl⟩⟩
    · exact ⟨rfl, .inr ⟨rfl, .inl isi_str_list⟩⟩
    · exact ⟨rfl, .inr ⟨rfl, .inl isi_int_list⟩⟩
    · exact ⟨rfl, .inl ⟨[.non], rfl, fun x hx => by rw [List.mem_singleton] at hx; subst hx; exact .odd ⟨.non, sh_non⟩ rfl, by simp, by simp⟩⟩
  have hm := all _ (List.getElem_mem hr6)
  have ix : gIxI (.lst false L6) (.int (r : Int)) = some L6[r] := ixI_of (by rw [ix_l, at_nat, List.getElem?_eq_getElem hr6]) hm.1
  refine ⟨L6[r], g', ?_, hm.2⟩
  generalize L6[r] = d at *
  subst hL6
  unfold spO spS spZ
  clear all hr6
  generalize T.map entT = TX at *
  generalize kD e.1 = KM at *
  generalize kD e.2.2 = KF at *
  simp [-ix_l, gt, tk, fT, ix, s0]
theorem if_y {t : Ev → Hap.R Bool} {a b : Ev → RS} {ρ ρ1 : Ev} (h : t ρ = .ok true ρ1) : fIf t a b ρ = a ρ1 := by simp [h]
theorem if_n {t : Ev → Hap.R Bool} {a b : Ev → RS} {ρ ρ1 : Ev} (h : t ρ = .ok false ρ1) : fIf t a b ρ = b ρ1 := by simp [h]
theorem sp_lt {m : Nat} : fTv (vOp2 gLt (vVar 2) (vK (.int (m : Int)))) (spS T g w at_ e od j k) = .ok (decide (w < m)) (spS T g w at_ e od j k) := by
  have : gLt (.int (w : Int)) (.int (m : Int)) = some (.bl (decide (w < m))) := by
    rw [lt_ii]; congr 2; exact decide_eq_decide.mpr (by omega)
  unfold spS
  simp [-lt_ii, this]
theorem sp_eq {m : Nat} : fTv (vOp2 gEq (vVar 2) (vK (.int (m : Int)))) (spS T g w at_ e od j k) = .ok (decide (w = m)) (spS T g w at_ e od j k) := by
  have : gEq (.int (w : Int)) (.int (m : Int)) = some (.bl (decide (w = m))) := by
    rw [eq_ii]; congr 2; exact decide_eq_decide.mpr (by omega)
  unfold spS
  simp [-eq_ii, this]
theorem spB_ok (I : SpI T g at_ e od j k n) (hw : w < 16) : ∃ d g', spB (spS T g w at_ e od j k) = .nx (spZ d g' w at_ e od j k) ∧ Thing d := by
  have L4 : fTv (vOp2 gLt (vVar 2) (vK (.int 4))) (spS T g w at_ e od j k) = _ := sp_lt (m := 4)
  have L7 : fTv (vOp2 gLt (vVar 2) (vK (.int 7))) (spS T g w at_ e od j k) = _ := sp_lt (m := 7)
  have E7 : fTv (vOp2 gEq (vVar 2) (vK (.int 7))) (spS T g w at_ e od j k) = _ := sp_eq (m := 7)
  have E8 : fTv (vOp2 gEq (vVar 2) (vK (.int 8))) (spS T g w at_ e od j k) = _ := sp_eq (m := 8)
  have E9 : fTv (vOp2 gEq (vVar 2) (vK (.int 9))) (spS T g w at_ e od j k) = _ := sp_eq (m := 9)
  have E10 : fTv (vOp2 gEq (vVar 2) (vK (.int 10))) (spS T g w at_ e od j k) = _ := sp_eq (m := 10)
  have E11 : fTv (vOp2 gEq (vVar 2) (vK (.int 11))) (spS T g w at_ e od j k) = _ := sp_eq (m := 11)
  have E12 : fTv (vOp2 gEq (vVar 2) (vK (.int 12))) (spS T g w at_ e od j k) = _ := sp_eq (m := 12)
  have E13 : fTv (vOp2 gEq (vVar 2) (vK (.int 13))) (spS T g w at_ e od j k) = _ := sp_eq (m := 13)
  have E14 : fTv (vOp2 gEq (vVar 2) (vK (.int 14))) (spS T g w at_ e od j k) = _ := sp_eq (m := 14)
  unfold spB
  by_cases c4 : w < 4
  · rw [decide_eq_true c4] at L4
    rw [if_y L4]; exact sp4_ok I
  rw [decide_eq_false c4] at L4
  rw [if_n L4]
  by_cases c7 : w < 7
  · rw [decide_eq_true c7] at L7
    rw [if_y L7]; exact sp7_ok I (by omega) c7
  rw [decide_eq_false c7] at L7
  rw [if_n L7]
  by_cases d7 : w = 7
  · rw [decide_eq_true d7] at E7
    rw [if_y E7]; exact spG_ok I
  rw [decide_eq_false d7] at E7
  rw [if_n E7]
  by_cases d8 : w = 8
  · rw [decide_eq_true d8] at E8
    rw [if_y E8]; exact spE_ok I
  rw [decide_eq_false d8] at E8
  rw [if_n E8]
  by_cases d9 : w = 9
  · rw [decide_eq_true d9] at E9
    rw [if_y E9]; exact spA_ok I
  rw [decide_eq_false d9] at E9
  rw [if_n E9]
  by_cases d10 : w = 10
  · rw [decide_eq_true d10] at E10
    rw [if_y E10]; exact spP_ok I
  rw [decide_eq_false d10] at E10
  rw [if_n E10]
  by_cases d11 : w = 11
  · rw [decide_eq_true d11] at E11
    rw [if_y E11]; exact spM_ok I
  rw [decide_eq_false d11] at E11
  rw [if_n E11]
  by_cases d12 : w = 12
  · rw [decide_eq_true d12] at E12
    rw [if_y E12]; exact spF_ok I
  rw [decide_eq_false d12] at E12
  rw [if_n E12]
  by_cases d13 : w = 13
  · rw [decide_eq_true d13] at E13
    rw [if_y E13]; exact spN_ok I
  rw [decide_eq_false d13] at E13
  rw [if_n E13]
  by_cases d14 : w = 14
  · rw [decide_eq_true d14] at E14
    rw [if_y E14]; exact spL_ok I
  rw [decide_eq_false d14] at E14
  rw [if_n E14]
  exact spO_ok I
end
theorem spoilt_spec (H : House h L) {T : List Ent} (Tb : Tab h L T) (t81 : T.length ≤ 81) {n : Nat} {g : D} (hb : Bag n g) (hn : n < 2 ^ 39) : ∃ d o, m__law_spoilt [.lst false (T.map entT), g] = .rt d o ∧ o.length = 2 ∧ Thing d := by
  have n1 := Tb.n1
  have h4 := H.h4
  have h2 := H.h2
  have l1 := H.l1
  have l6 := H.l6
  obtain ⟨w, g1, hw, hb1, t1⟩ := take_spec (m := 16) hb (by omega) (by omega) (by omega)
  obtain ⟨a, g2, ha, hb2, t2⟩ := take_spec (m := (T.length : Int)) hb1 (by omega) (by omega) (by omega)
  have ha' : a < T.length := by omega
  obtain ⟨o, g3, ho, hb3, t3⟩ := take_spec (m := 16) hb2 (by omega) (by omega) (by omega)
  obtain ⟨od, od1, od2, od3⟩ := odd_spec (n := o) (by omega)
  have hm : T[a] ∈ T := List.getElem_mem ha'
  have lm := Tb.ml _ hm
  have lf := Tb.fl _ hm
  obtain ⟨j, g4, hj, hb4, t4⟩ := take_spec (m := (T[a].1.length : Int)) hb3 (by omega) (by omega) (by omega)
  obtain ⟨k, g5, hk, hb5, t5⟩ := take_spec (m := (T[a].2.2.length : Int)) hb4 (by omega) (by omega) (by omega)
  have ge : T[a]? = some T[a] := List.getElem?_eq_getElem ha'
  have I : SpI T g5 a T[a] od j k (n + 1 + 1 + 1 + 1 + 1) := ⟨fun f hf => entC_ent (by rw [Tb.ml f hf]; omega) (by rw [Tb.fl f hf]; omega), n1, t81, ge, hb5, by omega, od2, od3, by omega, by omega, by omega, by omega⟩
  obtain ⟨d, g', e, th⟩ := spB_ok I (w := w) (by omega)
  have iT : isImms (T.map entT) = true := imms_map fun _ _ => imm_entT
  have gls : gList [.lst false (T.map entT)] = some (.lst true (T.map entT)) := if_pos iT
  have gl : gLen [.lst true (T.map entT)] = some (.int (T.length : Int)) := by rw [len_l, List.length_map]
  have ix : gIx (.lst true (T.map entT)) (.int (a : Int)) = some (entT T[a]) := by rw [ix_l, at_nat, List.getElem?_map, ge]; rfl
  have iE := imm_entT (e := T[a])
  have gv : ∀ v4 v5 v6 v7 v8 v9 : Option D, gT 3 (gsC (gN 4) (gsC (gN 5) (gsC (gN 6) gsN))) (entT T[a]) [some (.lst true (T.map entT)), some g2, some (.int (w : Int)), some (.int (a : Int)), v4, v5, v6, v7, v8, v9] = some [some (.lst true (T.map entT)), some g2, some (.int (w : Int)), some (.int (a : Int)), some (kD T[a].1), some (.bl T[a].2.1), some (kD T[a].2.2), v7, v8, v9] := fun v4 v5 v6 v7 v8 v9 => by unfold entT; simp
  have n1' : gLen [kD T[a].1] = some (.int (T[a].1.length : Int)) := by unfold kD; rw [len_t, List.length_map]
  have n2' : gLen [kD T[a].2.2] = some (.int (T[a].2.2.length : Int)) := by unfold kD; rw [len_t, List.length_map]
  have fo := od2.frz
  have io := od2.imm
  have t1 : m__law_take [g, .int 16] = _ := t1
  have t3 : m__law_take [g2, .int 16] = _ := t3
  refine ⟨d, [none, some g'], ?_, rfl, th⟩
  unfold m__law_spoilt; rw [semOf_ap, spo_seq]
  unfold spS spZ at e
  generalize (T[a].1.length : Int) = ml at *
  generalize (T[a].2.2.length : Int) = fl at *
  generalize kD T[a].1 = KM at *
  generalize kD T[a].2.2 = KF at *
  generalize entT T[a] = EE at *
  generalize T[a].2.1 = gb at *
  generalize T.map entT = TX at *
  simp [-ix_l, -len_l, -len_t, gls, t1, gl, t2, ix, iE, gv, t3, od1, n1', t4, n2', t5, e]
  split <;> rfl
theorem istab_of (H : House h L) {d : D} {b : Bool} (i : isImm d = true) (e : ∃ o, m_is_table_of [houD false h L, d] = .rt (.bl b) o) : m_is_table [houD false h L, d] = .rt (.bl b) [none, none] := by
  obtain ⟨o, e⟩ := e
  have ls := look_spec H
  have fd := frz_imm _ i
  have fH : frz (houD false h L) = houD false h L := by simp
  generalize houD false h L = HH at *
  unfold m_is_table; rw [semOf_ap]; unfold b_is_table
  simp [ls, fd, fH, e]
theorem thing_alike (H : House h L) {d : D} (t : Thing d) : isImm (frz d) = true ∧ ∃ b : Bool, m_is_table [houD false h L, frz d] = .rt (.bl b) [none, none] ∧ ∃ o, m__law_is_table [houD false h L, frz d] = .rt (.bl b) o := by
  rcases t with ⟨DS, e, hc, n1, n600⟩ | ⟨i, hd⟩
  · rw [e]
    obtain ⟨b, h1, h2⟩ := look_list H hc n1 n600
    have im : isImm (.lst false DS) = true := by rw [imm_lstI]; exact imms_all fun d hd => (hc d hd).imm
    exact ⟨im, b, istab_of H im h1, h2⟩
  · obtain ⟨h1, h2⟩ := look_none (h := h) (L := L) hd i
    exact ⟨i, false, istab_of H i h1, h2⟩
theorem turn44 (H : House h L) {T : List Ent} (Tb : Tab h L T) (t81 : T.length ≤ 81) {ns : List Int} {k : Nat} {v3 v4 v5 v6 v7 v8 v9 : Option D} :
    ∃ w4 w5 : Option D, stepS (gN 3) l_law_2 (.int (k : Int)) [some (.rol (ns.map D.int)), some (houD false h L), some (.lst false (T.map entT)), v3, v4, v5, v6, v7, v8, v9]
      = .nx [some (.rol (ns.map D.int)), some (houD false h L), some (.lst false (T.map entT)), some (.int (k : Int)), w4, w5, v6, v7, v8, v9] := by
  have ce : m__law_cell [.rol (ns.map D.int), .int ((k + 2 : Nat) : Int)] = _ := cell_spec ns (k + 2)
  obtain ⟨g, hb, tb⟩ := bag_spec (cellM ns (k + 2) + 3 * (k : Int))
  obtain ⟨d, o, e, ol, th⟩ := spoilt_spec H Tb t81 hb (by omega)
  obtain ⟨im, b, e1, o2, e2⟩ := thing_alike H th
  have k2 : gAdd (.int (k : Int)) (.int 2) = some (.int ((k + 2 : Nat) : Int)) := by simp
  have iT : isImm (.lst false (T.map entT)) = true := imms_map fun _ _ => imm_entT
  have fT := frz_imm _ iT
  have fH : frz (houD false h L) = houD false h L := by simp
  have bi := isi_bl_bool (b := b)
  have ff : frz (frz d) = frz d := frz_imm _ im
  have ne : gNe (.bl b) (.bl b) = some (.bl false) := by rw [ne_bb]; simp
  have fS : frz (.rol (ns.map D.int)) = .rol (ns.map D.int) := by simp
  have cm : CMul 3 (k : Int) := .inl ⟨by decide, by decide⟩
  refine ⟨some (frz d), some (.bl b), ?_⟩
  rw [ap_step]; unfold l_law_2
  generalize ((k + 2 : Nat) : Int) = k3 at *
  generalize D.rol (ns.map D.int) = SC at *
  generalize cellM ns (k + 2) = cc at *
  generalize D.lst false (T.map entT) = TD at *
  generalize houD false h L = HH at *
  simp [fS, k2, cm, ce, tb, fT, apG, e, e1, e2, ff, fH, bi, ne, fOp2L]
theorem eq_nat {a b : Nat} : gEq (.int (a : Int)) (.int (b : Int)) = some (.bl (decide (a = b))) := by
  rw [eq_ii]; congr 2; exact decide_eq_decide.mpr (by omega)
def bigE (h : Nat) (L : List (Nat × List Nat)) (k : Nat) : Ent := (k :: List.replicate (h - 1) 0, decide (k % 2 = 0), L.map fun _ => k)
theorem big_tab (H : House h L) {N : Nat} (n1 : 1 ≤ N) : Form h L ((List.range N).map (bigE h L)) ∧ (((List.range N).map (bigE h L)).map (·.1)).Nodup ∧ ∀ k, k < L.length → Apt h L ((List.range N).map (bigE h L)) k := by
  have h2 := H.h2
  have bh : ∀ i, i < N → ∀ k, k < L.length → bhT ((List.range N).map (bigE h L)) (bigE h L i) k = (bigE h L i).1 := fun i hi k hk => by
    have e1 : (bigE h L i).2.2.getD k 0 = i := by
      show (L.map fun _ => i).getD k 0 = i
      rw [List.getD_eq_getElem?_getD, List.getElem?_map, List.getElem?_eq_getElem hk]; rfl
    unfold bhT
    rw [e1, List.getD_eq_getElem?_getD, List.getElem?_map, List.getElem?_range hi]; rfl
  refine ⟨⟨fun e he => ?_, fun e he => ?_, fun e he x hx => ?_⟩, ?_, fun k hk => ⟨fun e he i hi hn => ?_, fun e he e' he' hkey => ?_⟩⟩
  · obtain ⟨i, _, rfl⟩ := List.mem_map.mp he
    show (i :: List.replicate (h - 1) 0).length = h
    rw [List.length_cons, List.length_replicate]; omega
  · obtain ⟨i, _, rfl⟩ := List.mem_map.mp he
    show (L.map fun _ => i).length = L.length
    rw [List.length_map]
  · obtain ⟨i, hi, rfl⟩ := List.mem_map.mp he
    have hx : x ∈ L.map fun _ => i := hx
    obtain ⟨_, _, rfl⟩ := List.mem_map.mp hx
    rw [List.length_map, List.length_range]
    exact List.mem_range.mp hi
  · rw [List.map_map]
    refine List.pairwise_map.mpr (List.pairwise_lt_range.imp fun {i j} hij e => ?_)
    have e : i :: List.replicate (h - 1) 0 = j :: List.replicate (h - 1) 0 := e
    injection e with e _
    omega
  · obtain ⟨j, hj, rfl⟩ := List.mem_map.mp he
    rw [bh j (List.mem_range.mp hj) k hk]
  · obtain ⟨j, hj, rfl⟩ := List.mem_map.mp he
    obtain ⟨j', hj', rfl⟩ := List.mem_map.mp he'
    rw [bh j (List.mem_range.mp hj) k hk, bh j' (List.mem_range.mp hj') k hk]
    exact hkey
theorem big_turn (H : House h L) {k : Nat} {v0 v2 v3 v4 v5 v7 v8 v9 : Option D} (hk : k < 601) (i8 : immO (some v8) = true) (i9 : immO (some v9) = true) :
    stepS (gN 3) l_law_1 (.int (k : Int)) [v0, some (houD false h L), v2, v3, v4, v5, some (.lst true (((List.range k).map (bigE h L)).map entT)), v7, v8, v9]
      = .nx [v0, some (houD false h L), v2, some (.int (k : Int)), v4, v5, some (.lst true (((List.range (k + 1)).map (bigE h L)).map entT)), some (kD (L.map fun _ => k)), v8, v9] := by
  have l6 := H.l6
  have h4 := H.h4
  have h2 := H.h2
  have hix : gIx (houD false h L) (.int 1) = some (.lst false (L.map (entD false))) := hou_ix1
  have h0 : gIx (houD false h L) (.int 0) = some (.int (h : Int)) := by unfold houD; simp
  have iL : isImm (.lst false (L.map (entD false))) = true := imms_map fun _ _ => imm_ent
  have itL : itemsL (.lst false (L.map (entD false))) = some (L.map (entD false)) := congrArg some (frzs_mapf fun _ _ => frz_ent)
  have lc1 : ∀ v6 v7 : Option D, fLc (fIt itemsL (fI (vOp2 gIx (vVar 1) (vK (.int 1))))) (gN 8) fYes (fVar 3) [8] [v0, some (houD false h L), v2, some (.int (k : Int)), v4, v5, v6, v7, v8, v9]
      = .ok (.lst true ((L.map fun _ => k).map natD)) [v0, some (houD false h L), v2, some (.int (k : Int)), v4, v5, v6, v7, v8, v9] := fun v6 v7 => by
    rw [List.map_map]
    generalize D.lst false (L.map (entD false)) = LE at *
    generalize houD false h L = HH at *
    refine lc_all (g := entD false) (e := fun _ => natD k) (by simp [hix, iL, itL]) (by simp [i8]) (by unfold sizeLine; omega) fun e _ => ?_
    generalize entD false e = EE at *
    exact ⟨[v0, some HH, v2, some (.int (k : Int)), v4, v5, v6, v7, some EE, v9], by simp, [v0, some HH, v2, some (.int (k : Int)), v4, v5, v6, v7, some EE, v9], by simp [natD], by simp⟩
  have t1 : gTuple [.lst true ((L.map fun _ => k).map natD)] = some (kD (L.map fun _ => k)) := if_pos (imms_map fun _ _ => rfl)
  have sb : gSub (.int (h : Int)) (.int 1) = some (.int ((h - 1 : Nat) : Int)) := by
    have : (h : Int) - 1 = ((h - 1 : Nat) : Int) := by omega
    simp [this]
  have hr : rng1 [.int ((h - 1 : Nat) : Int)] = some ((List.range (h - 1)).map fun i : Nat => .int (i : Int)) := rng1_n (n := h - 1) (by omega)
  have lc2 : ∀ v6 v7 : Option D, fLc (fItN rng1 (fCons (fI (vOp2 gSub (vOp2 gIx (vVar 1) (vK (.int 0))) (vK (.int 1)))) fNil)) (gN 9) fYes (fK (.int 0)) [9] [v0, some (houD false h L), v2, some (.int (k : Int)), v4, v5, v6, v7, v8, v9]
      = .ok (.lst true ((List.replicate (h - 1) 0).map natD)) [v0, some (houD false h L), v2, some (.int (k : Int)), v4, v5, v6, v7, v8, v9] := fun v6 v7 => by
    have e0 : (List.replicate (h - 1) 0).map natD = (List.range (h - 1)).map fun _ => D.int 0 := by
      rw [List.map_replicate, List.map_const', List.length_range]; rfl
    rw [e0]
    generalize ((h - 1 : Nat) : Int) = hm at *
    generalize houD false h L = HH at *
    refine lc_all (g := fun i : Nat => D.int (i : Int)) (e := fun _ => .int 0) (by simp [-ix_t, -sub_ii, h0, sb, hr]) (by simp [i9]) (by rw [List.length_range]; unfold sizeLine; omega) fun i _ => ?_
    exact ⟨[v0, some HH, v2, some (.int (k : Int)), v4, v5, v6, v7, v8, some (.int (i : Int))], by simp, [v0, some HH, v2, some (.int (k : Int)), v4, v5, v6, v7, v8, some (.int (i : Int))], by simp, by simp⟩
  have ad : gAdd (.lst true [.int (k : Int)]) (.lst true ((List.replicate (h - 1) 0).map natD)) = some (.lst true ((k :: List.replicate (h - 1) 0).map natD)) := by
    rw [add_ll, if_pos ⟨⟨rfl, imms_map fun _ _ => rfl⟩, by simp; unfold sizeLine; omega⟩]; rfl
  have t2 : gTuple [.lst true ((k :: List.replicate (h - 1) 0).map natD)] = some (kD (k :: List.replicate (h - 1) 0)) := if_pos (imms_map fun _ _ => rfl)
  have md := mod2 (w := k)
  have eq : gEq (.int ((k % 2 : Nat) : Int)) (.int 0) = some (.bl (decide (k % 2 = 0))) := eq_nat (a := k % 2) (b := 0)
  have fk := frz_kD (x := L.map fun _ => k)
  have s1 : 1 ≤ sizeLine := by decide
  have s3 : 3 ≤ sizeLine := by decide
  have eN : ((List.range (k + 1)).map (bigE h L)).map entT = ((List.range k).map (bigE h L)).map entT ++ [.tup [kD (k :: List.replicate (h - 1) 0), .bl (decide (k % 2 = 0)), kD (L.map fun _ => k)]] := by
    rw [List.range_succ, List.map_append, List.map_append]; rfl
  have ap : ∀ (X : D) (ρ : Ev), appS (some (some (.lst true (((List.range k).map (bigE h L)).map entT)))) 6 X ρ = .nx (ρ.set 6 (some (.lst true (((List.range k).map (bigE h L)).map entT ++ [X])))) := fun X ρ => by
    unfold appS
    dsimp only
    rw [if_pos (by simp; unfold sizeLine; omega)]
  have is6 : ∀ r : RS, isLs (some (some (.lst true (((List.range k).map (bigE h L)).map entT)))) r = r := fun _ => rfl
  rw [eN, ap_step]; unfold l_law_1
  generalize ((List.range k).map (bigE h L)).map entT = TX at *
  generalize ((k % 2 : Nat) : Int) = k2 at *
  generalize decide (k % 2 = 0) = kb at *
  generalize kD (k :: List.replicate (h - 1) 0) = K1 at *
  generalize (k :: List.replicate (h - 1) 0).map natD = N1 at *
  generalize (List.replicate (h - 1) 0).map natD = N0 at *
  generalize (L.map fun _ => k).map natD = N2 at *
  generalize kD (L.map fun _ => k) = K2 at *
  generalize houD false h L = HH at *
  simp [-appS_s, -mod_ii, -eq_ii, -add_ll, lc1, t1, lc2, ad, t2, md, eq, fk, s1, s3, ap, is6]
theorem refused_spec : m__law_refused [] = .rt (.bl true) [] := by
  obtain ⟨HB, hHB⟩ : ∃ HB : D, HB = .tup [.int 1, .lst false [.tup [.str "a", .lst false [.int 0]]]] := ⟨_, rfl⟩
  have s1 : ∀ m : Nat, m ≤ 30 → m ≤ sizeLine := fun m h => Nat.le_trans h (by decide)
  have ih : m_is_house [HB] = .rt (.bl false) [none] := by
    subst hHB
    have w1 := whole_spec 1
    unfold m_is_house; rw [semOf_ap]; unfold b_is_house
    simp [w1]
  have fH : frz HB = HB := by subst hHB; simp
  have fH2 : frz (.tup [.int 1, .lst true [.tup [.str "a", .lst true [.int 0]]]]) = HB := by subst hHB; simp
  have lh : m_look_house [HB] = .exc ⟨"NoHouse", []⟩ [none] := by
    unfold m_look_house; rw [semOf_ap]; unfold b_look_house
    simp [fH, ih]
  have it : m_is_table [HB, .lst false []] = .exc ⟨"NoHouse", []⟩ [none, none] := by
    unfold m_is_table; rw [semOf_ap]; unfold b_is_table
    simp [fH, lh]
  have dr : ∀ ρ : Ev, (fDrop (fCall 2 m_is_table (fCons (fTup (fCons (fK (.int 1)) (fCons (fLst (fCons (fTup (fCons (fK (.str "a")) (fCons (fLst (fCons (fK (.int 0)) fNil)) fNil))) fNil)) fNil))) (fCons (fLst fNil) fNil)))) ρ = .exc ⟨"NoHouse", []⟩ ρ := fun ρ => by
    simp [-frz_tup, s1, fH2, it]
  have tr : ∀ ρ : Ev, fTryH (fun _ => .bl true) (fDrop (fCall 2 m_is_table (fCons (fTup (fCons (fK (.int 1)) (fCons (fLst (fCons (fTup (fCons (fK (.str "a")) (fCons (fLst (fCons (fK (.int 0)) fNil)) fNil))) fNil)) fNil))) (fCons (fLst fNil) fNil)))) ρ = .rt (.bl true) ρ := fun ρ => by
    unfold fTryH; rw [dr]; rfl
  unfold m__law_refused; rw [semOf_ap]; unfold b__law_refused
  rw [ap_seq, tr]; rfl
theorem min_nn (a b : Nat) : gMin2 [.int (a : Int), .int (b : Int)] = some (.int ((min a b : Nat) : Int)) := by
  show some (D.int (if (b : Int) < (a : Int) then (b : Int) else (a : Int))) = _
  congr 2
  split <;> omega
theorem max_nn (a b : Nat) : gMax2 [.int (a : Int), .int (b : Int)] = some (.int ((max a b : Nat) : Int)) := by
  show some (D.int (if (a : Int) < (b : Int) then (b : Int) else (a : Int))) = _
  congr 2
  split <;> omega
theorem m_law_true (ns : List Int) (_ : ns.length ≤ 63) : ∃ o, m_law [.rol (ns.map D.int)] = .rt (.bl true) o := by
  obtain ⟨b0, hb0, tb0⟩ := bag_spec (cellM ns 0)
  obtain ⟨b1, h, L, hb1, H, th⟩ := house_spec hb0 (by omega)
  obtain ⟨c0, hc0, tc0⟩ := bag_spec (cellM ns 1)
  obtain ⟨c1, T, td, _, Tb, t81⟩ := drawn_spec H hc0 (by omega)
  have ce0 : m__law_cell [.rol (ns.map D.int), .int 0] = _ := cell_spec ns 0
  have ce1 : m__law_cell [.rol (ns.map D.int), .int 1] = _ := cell_spec ns 1
  have iT : isImm (.lst false (T.map entT)) = true := imms_map fun _ _ => imm_entT
  have fHt : frz (houD true h L) = houD false h L := by simp
  have fH : frz (houD false h L) = houD false h L := by simp
  have fT : frz (.lst true (T.map entT)) = .lst false (T.map entT) := by rw [frz_lst, frzs_mapf fun _ _ => frz_entT]
  have fT2 := frz_imm _ iT
  have i1 := istab_of H iT (istab_spec H Tb.form Tb.n1 (by omega) (b := true) ⟨fun _ => Tb.apt, fun _ => rfl⟩)
  -- the spoilt things
  obtain ⟨N, hN⟩ : ∃ N, N = max 3 (min 20 ns.length) := ⟨_, rfl⟩
  have gl : gLen [.rol (ns.map D.int)] = some (.int (ns.length : Int)) := by simp
  have mi : gMin2 [.int 20, .int (ns.length : Int)] = some (.int ((min 20 ns.length : Nat) : Int)) := min_nn 20 ns.length
  have ma : gMax2 [.int 3, .int ((min 20 ns.length : Nat) : Int)] = some (.int (N : Int)) := by rw [hN]; exact max_nn 3 _
  have r1 := rng1_n (n := N) (by omega)
  obtain ⟨ρ1, lp1, w3, w4, w5, rfl⟩ := loopR (step := stepS (gN 3) l_law_2) (n := N) (ρ := [some (.rol (ns.map D.int)), some (houD false h L), some (.lst false (T.map entT)), none, none, none, none, none, none, none])
    (fun _ ρ => ∃ w3 w4 w5 : Option D, ρ = [some (.rol (ns.map D.int)), some (houD false h L), some (.lst false (T.map entT)), w3, w4, w5, none, none, none, none])
    ⟨none, none, none, rfl⟩ (by
      rintro k ρ hk ⟨w3, w4, w5, rfl⟩
      obtain ⟨u4, u5, e⟩ := turn44 H Tb t81 (ns := ns) (k := k) (v3 := w3) (v4 := w4) (v5 := w5) (v6 := none) (v7 := none) (v8 := none) (v9 := none)
      exact ⟨_, e, _, _, _, rfl⟩)
  -- the large tables
  obtain ⟨ρ2, lp2, x3, x7, rfl⟩ := loopR (step := stepS (gN 3) l_law_1) (n := 601) (ρ := [some (.rol (ns.map D.int)), some (houD false h L), some (.lst false (T.map entT)), w3, w4, w5, some (.lst true (((List.range 0).map (bigE h L)).map entT)), none, none, none])
    (fun k ρ => ∃ x3 x7 : Option D, ρ = [some (.rol (ns.map D.int)), some (houD false h L), some (.lst false (T.map entT)), x3, w4, w5, some (.lst true (((List.range k).map (bigE h L)).map entT)), x7, none, none])
    ⟨w3, none, rfl⟩ (by
      rintro k ρ hk ⟨x3, x7, rfl⟩
      exact ⟨_, big_turn H hk rfl rfl, _, _, rfl⟩)
  have r2 : rng1 [.int 601] = some ((List.range 601).map fun i : Nat => .int (i : Int)) := rng1_n (n := 601) (by omega)
  have e0 : D.lst true [] = .lst true (((List.range 0).map (bigE h L)).map entT) := rfl
  have im : ∀ X : List Ent, isImms (X.map entT) = true := fun X => imms_map fun _ _ => imm_entT
  have sl : gSl (.lst false (((List.range 601).map (bigE h L)).map entT)) none (some 600) = some (.lst true (((List.range 600).map (bigE h L)).map entT)) := by
    have q := sl_to (o := false) (im ((List.range 601).map (bigE h L))) (p := 600)
    have e1 : (((List.range 601).map (bigE h L)).map entT).take 600 = ((List.range 600).map (bigE h L)).map entT := by
      rw [← List.map_take, ← List.map_take, List.take_range]; rfl
    rw [e1] at q
    exact q
  have iB : ∀ X : List Ent, isImm (.lst false (X.map entT)) = true := fun X => by rw [imm_lstI]; exact im X
  have fB : ∀ X : List Ent, frz (.lst true (X.map entT)) = .lst false (X.map entT) := fun X => by rw [frz_lst, frzs_mapf fun _ _ => frz_entT]
  obtain ⟨B1, B2, B3⟩ := big_tab H (N := 600) (by omega)
  have i2 := istab_of H (iB _) (istab_spec H B1 (by simp) (by simp) (b := true) ⟨fun _ => ⟨B2, B3⟩, fun _ => rfl⟩)
  have i3 : m_is_table [houD false h L, .lst false (((List.range 601).map (bigE h L)).map entT)] = .rt (.bl false) [none, none] := istab_of H (iB _) (by
    have il : gIsi [D.lst false (((List.range 601).map (bigE h L)).map entT), .gv (.ty "list")] = some (.bl true) := isi_lst_list
    have lT : gLen [D.lst false (((List.range 601).map (bigE h L)).map entT)] = some (.int 601) := by rw [len_l, List.length_map, List.length_map, List.length_range]; rfl
    have c1 : gLe (.int 1) (.int 601) = some (.bl true) := rfl
    have c2 : gLe (.int 601) (.int 600) = some (.bl false) := rfl
    refine ⟨[none, none], ?_⟩
    unfold m_is_table_of; rw [semOf_ap]; unfold b_is_table_of
    generalize D.lst false (((List.range 601).map (bigE h L)).map entT) = TD at *
    generalize houD false h L = HH at *
    simp [-le_ii, il, lT, c1, c2])
  have rf := refused_spec
  have fG := frzs_imm _ (im ((List.range 601).map (bigE h L)))
  have fSC : frz (.rol (ns.map D.int)) = .rol (ns.map D.int) := by simp
  have is1 : gIsn' (.bl true) (.bl true) = some (.bl false) := rfl
  have is2 : gIsn' (.bl false) (.bl false) = some (.bl false) := rfl
  have s0 : 0 ≤ sizeLine := by decide
  have fB1 := fB ((List.range 600).map (bigE h L))
  refine ⟨[none], ?_⟩
  have vr : vRes (RF.rt (.bl false) [none, none]) = some (.bl false) := rfl
  clear hN iT iB fB im B1 B2 B3
  generalize D.rol (ns.map D.int) = SC at *
  generalize ((List.range 601).map (bigE h L)).map entT = G1 at *
  generalize ((List.range 600).map (bigE h L)).map entT = G0 at *
  generalize D.lst true (((List.range 0).map (bigE h L)).map entT) = G00 at *
  generalize (List.range N).map (fun i : Nat => D.int (i : Int)) = RN at *
  generalize (List.range 601).map (fun i : Nat => D.int (i : Int)) = R6 at *
  generalize ((min 20 ns.length : Nat) : Int) = mm at *
  generalize D.lst true (T.map entT) = TT at *
  generalize D.lst false (T.map entT) = TD at *
  generalize houD true h L = HT at *
  generalize houD false h L = HH at *
  unfold m_law; rw [semOf_ap]; unfold b_law
  simp [fSC, ce0, tb0, th, ce1, tc0, fHt, fH, td, fT, fT2, i1, is1, gl, mi, ma, r1, lp1, e0, r2, lp2, sl, fB1, fG, i2, i3, vr, is2, rf, s0]
end
end Law
open PySem PySem.W PyProof.Rows
set_option pp.maxSteps 20 in
set_option pp.deepTerms false in
set_option maxHeartbeats 0 in
theorem PySem.Challenge.cw_handsapart_k44_tables_known_holds : PySem.Challenge.rw_handsapart_k44_tables_known.Holds := by
  w_on; o_law; k_head; (case hw => w_witness2)
  k_fill
  refine Hap.walkDT (l := PySem.Challenge.rw_handsapart_k44_tables_known) (k := 8) (x := "_law_script") (sem := Law.m_law) rfl rfl (by decide) (fun w h Y => by first | exact PySem.W.kIn_of Y | exact PySem.W.km_in_of Y) ?F Law.m_law_true
  case F =>
    intro w mg fa h Y KX G hmg
    refine' Law.all_mk KX G hmg ?a0 ?l0 ?c0 ?k0 ?a1 ?l1 ?c1 ?k1 ?a2 ?l2 ?c2 ?k2 ?a3 ?l3 ?c3 ?k3 ?a4 ?l4 ?c4 ?k4 ?a5 ?l5 ?c5 ?k5 ?a6 ?l6 ?c6 ?k6 ?a7 ?l7 ?c7 ?k7 ?a8 ?l8 ?c8 ?k8 ?a9 ?l9 ?c9 ?k9 ?a10 ?l10 ?c10 ?k10 ?a11 ?l11 ?c11 ?k11 ?a12 ?l12 ?c12 ?k12 ?a13 ?l13 ?c13 ?k13 ?a14 ?l14 ?c14 ?k14 ?a15 ?l15 ?c15 ?k15 ?a16 ?l16 ?c16 ?k16 ?a17 ?l17 ?c17 ?k17 ?a18 ?l18 ?c18 ?k18 ?a19 ?l19 ?c19 ?k19 ?a20 ?l20 ?c20 ?k20 ?a21 ?l21 ?c21 ?k21 ?EgH ?EqH ?EmH ?EtH ?Eg0 ?Eq0 ?Em0 ?Et0 ?Ep0 ?Ega0 ?Egt0 ?Eca0 ?Eex0 ?Enn ?Etk ?End ?z_ValueError ?z_abs ?z_all ?z_bool ?z_enumerate ?z_int ?z_isinstance ?z_len ?z_list ?z_max ?z_min ?z_range ?z_set ?z_str ?z_tuple ?z_zip ?e_LETTERS ?e_FEWEST_HANDS ?e_MOST_HANDS ?e_MOST_LETTERS ?e_MOST
    (case a0 => k_is)
    (case l0 => k_is)
    (case c0 => k_is)
    (case k0 => k_is)
    (case a1 => k_is)
    (case l1 => k_is)
    (case c1 => k_is)
    (case k1 => k_is)
    (case a2 => k_is)
    (case l2 => k_is)
    (case c2 => k_is)
    (case k2 => k_is)
    (case a3 => k_is)
    (case l3 => k_is)
    (case c3 => k_is)
    (case k3 => k_is)
    (case a4 => k_is)
    (case l4 => k_is)
    (case c4 => k_is)
    (case k4 => k_is)
    (case a5 => k_is)
    (case l5 => k_is)
    (case c5 => k_is)
    (case k5 => k_is)
    (case a6 => k_is)
    (case l6 => k_is)
    (case c6 => k_is)
    (case k6 => k_is)
    (case a7 => k_is)
    (case l7 => k_is)
    (case c7 => k_is)
    (case k7 => k_is)
    (case a8 => k_is)
    (case l8 => k_is)
    (case c8 => k_is)
    (case k8 => k_is)
    (case a9 => k_is)
    (case l9 => k_is)
    (case c9 => k_is)
    (case k9 => k_is)
    (case a10 => k_is)
    (case l10 => k_is)
    (case c10 => k_is)
    (case k10 => k_is)
    (case a11 => k_is)
    (case l11 => k_is)
    (case c11 => k_is)
    (case k11 => k_is)
    (case a12 => k_is)
    (case l12 => k_is)
    (case c12 => k_is)
    (case k12 => k_is)
    (case a13 => k_is)
    (case l13 => k_is)
    (case c13 => k_is)
    (case k13 => k_is)
    (case a14 => k_is)
    (case l14 => k_is)
    (case c14 => k_is)
    (case k14 => k_is)
    (case a15 => k_is)
    (case l15 => k_is)
    (case c15 => k_is)
    (case k15 => k_is)
    (case a16 => k_is)
    (case l16 => k_is)
    (case c16 => k_is)
    (case k16 => k_is)
    (case a17 => k_is)
    (case l17 => k_is)
    (case c17 => k_is)
    (case k17 => k_is)
    (case a18 => k_is)
    (case l18 => k_is)
    (case c18 => k_is)
    (case k18 => k_is)
    (case a19 => k_is)
    (case l19 => k_is)
    (case c19 => k_is)
    (case k19 => k_is)
    (case a20 => k_is)
    (case l20 => k_is)
    (case c20 => k_is)
    (case k20 => k_is)
    (case a21 => k_is)
    (case l21 => k_is)
    (case c21 => k_is)
    (case k21 => k_is)
    (case EgH => k_is)
    (case EqH => k_is)
    (case EmH => rfl)
    (case EtH => k_is)
    (case Eg0 => k_is)
    (case Eq0 => k_is)
    (case Em0 => rfl)
    (case Et0 => k_is)
    (case Ep0 => k_is)
    (case Ega0 => k_is)
    (case Egt0 => k_is)
    (case Eca0 => k_is)
    (case Eex0 => k_exc)
    (case Enn => k_is)
    (case Etk => k_is)
    (case End => decide)
    (case z_ValueError => k_is)
    (case z_abs => k_is)
    (case z_all => k_is)
    (case z_bool => k_is)
    (case z_enumerate => k_is)
    (case z_int => k_is)
    (case z_isinstance => k_is)
    (case z_len => k_is)
    (case z_list => k_is)
    (case z_max => k_is)
    (case z_min => k_is)
    (case z_range => k_is)
    (case z_set => k_is)
    (case z_str => k_is)
    (case z_tuple => k_is)
    (case z_zip => k_is)
    (case e_LETTERS => k_is)
    (case e_FEWEST_HANDS => k_is)
    (case e_MOST_HANDS => k_is)
    (case e_MOST_LETTERS => k_is)
    (case e_MOST => k_is)
