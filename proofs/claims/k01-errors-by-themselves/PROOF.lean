import PyProof.Rows.All
import Wide.All
import OpenK.AllK
import Wide.FinOn
import HandS.ForMost
import HandS.Exc
import HandS.IsInst
import HandS.Walk
import HandS.Star
import HandS.CallSlots
import HandS.Lambda
import KE.KDflt
import HandS.ExcOwn
import HandS.Property
import HandS.WordsExc
import HandS.Wide
import HandS.TupAny
import HandS.TupMul
import HandS.WordsDict
import HandS.Zip
import HandS.Rev
import KE.GoesMore
import KE.GoesZip
import KE.GoesEnum
import HandS.Small
import HandS.StrMore
import HandS.Comp
import HandS.Iter
import KE.SortData
import KE.KDictSum
import PyProof.CollectStr
import HandS.More
import KE.KExcSuper
import HandS.ExcInit
import HandS.ExcIs
import HandS.TryMany
import KE.KTryMore
import HandS.HotCalls
import HandS.ExcField
import HandS.Style
import HandS.SetKeys
import HandS.TupSets
import KE.KOpsOwn
import HandS.FStr
import HandS.Defaults
import HandS.MakeKw
import HandS.NoneIn
import HandS.EndTab
import KE.KNestM
import HandS.SetFor
import HandS.SetTxt0
import HandS.Strs
import KE.DataMinMax
import PyProof.ListStr
import PySem.Challenge.RW_waysagree_k01_errors_by_themselves
set_option Elab.async false
set_option linter.all false
set_option maxRecDepth 100000
set_option maxHeartbeats 4000000
/-! Z0: values as data, mutable things by handles in a store; what a value of the heap stands for; readings by functions on data. -/
namespace Z
open PySem PySem.Spec L2
/-- a lambda of the text -/
structure LamText where
  id : Nat
  params : Arguments
  body : Expr
  scope : Scope
  qual : Str
  dvs : List V
  names : List Str
inductive D where
  | non
  | bl (b : Bool)
  | int (i : Int)
  | str (s : Str)
  | ty (n : String)
  | cls (c : Str)
  | tup (xs : List D)
  | lst (xs : List D)
  | dct (ks vs : List D)
  | ins (c : Str) (ns : List Str) (vs : List D)
  | ptr (n : Nat)
  /-- the script: a list of ints that nobody changes -/
  | scr (xs : List Int)
  /-- an exception that is held -/
  | exc (c : Str) (ns : List Str) (vs : List D)
  /-- a lambda, its cells; one whose cells are known -/
  | lam (T : LamText) (clo : List (Str × Addr))
  | lamc (T : LamText) (caps : List D)
/-- a mutable thing; lk: it is being walked (read only) -/
inductive MO where
  | lst (xs : List D)
  | dct (lk : Bool) (ks vs : List D)
  | ins (c : Str) (ns : List Str) (vs : List D)
  /-- a table of code objects -/
  | tab (P : Addr) (q : Str)
abbrev Store := List MO
inductive Out (α : Type) where
  | ok (a : α) (S : Store)
  | ex (e : D) (S : Store)
  | bad
def Out.bind {α β : Type} (o : Out α) (k : α → Store → Out β) : Out β := match o with
  | .ok a S => k a S
  | .ex e S => .ex e S
  | .bad => .bad
abbrev Sl := List (Option D)
abbrev EX := Sl → Store → Out D
abbrev AX := Sl → Store → Out (List D)
abbrev BX := Sl → Store → Out Bool
/-- a statement's end -/
inductive SO where
  | nx (sl : Sl) (S : Store)
  | bk (sl : Sl) (S : Store)
  | ct (sl : Sl) (S : Store)
  | rt (d : D) (S : Store)
  | ex (e : D) (sl : Sl) (S : Store)
  | bad
abbrev SX := Sl → Store → SO
mutual
/-- no lambda whose cells are known is in it -/
def noLc : D → Bool
  | .tup xs => noLcL xs
  | .lst xs => noLcL xs
  | .dct ks vs => noLcL ks && noLcL vs
  | .ins _ _ vs => noLcL vs
  | .exc _ _ vs => noLcL vs
  | .lamc _ _ => false
  | .non => true
  | .bl _ => true
  | .int _ => true
  | .str _ => true
  | .ty _ => true
  | .cls _ => true
  | .scr _ => true
  | .ptr _ => true
  | .lam _ _ => true
def noLcL : List D → Bool
  | [] => true
  | d :: ds => noLc d && noLcL ds
end
def noLcM : MO → Bool
  | .lst xs => noLcL xs
  | .dct _ ks vs => noLcL ks && noLcL vs
  | .ins _ _ vs => noLcL vs
  | .tab _ _ => true
/-! ### what a value stands for -/
section
variable (K : PySem.W.Frag) (mg : Str → Option Value) (ρ : List Addr) (H : Hp)
/-- a list, a tuple of the written part -/
def KLst (a : Addr) (vs : List V) : Prop := ∃ (o : Obj) (its : Array Value) (n : Nat), K.lookup a = some o ∧ o.cls = .type "list" ∧ o.dict = none ∧ o.data = .seq its n ∧ its.size ≤ sizeLine ∧ Vals vs its.toList
def KTup (a : Addr) (vs : List V) : Prop := ∃ (o : Obj) (its : Array Value) (n : Nat), K.lookup a = some o ∧ o.cls = .type "tuple" ∧ o.data = .seq its n ∧ its.size ≤ sizeLine ∧ Vals vs its.toList
def ScrAt (a : Addr) (vs : List V) : Prop := (a ∉ ρ ∧ Rd H a (.lst vs)) ∨ KLst K a vs
def LstAt (a : Addr) (vs : List V) : Prop := a ∉ ρ ∧ H a = some (.lst vs)
def TupAt (a : Addr) (vs : List V) : Prop := (a ∉ ρ ∧ H a = some (.tup vs)) ∨ KTup K a vs
/-- a dict whose keys are ints and texts -/
def DctAt (a : Addr) (ks vs : List V) : Prop := a ∉ ρ ∧ ∃ kvs : List (Key × V), Rd H a (.dK kvs) ∧ ks = kvs.map (fun p => kV p.1) ∧ vs = kvs.map (·.2)
/-- the very object at a -/
def XO (a : Addr) (o : Obj) : HO := .ext fun h => h.get? a = some o
/-- an exception's object at a, its class, its dict -/
def ExD (a C d : Addr) : HO := .ext fun h => ∃ (oe : Obj) (vs : Array Value), h.get? a = some oe ∧ Zc (.ref C) (some d) oe ∧ oe.data = .fields vs
def DfAt (dvs : List V) (dV : Value) : Prop := (dvs = [] ∧ dV = .none) ∨ (dvs ≠ [] ∧ ∃ t, dV = .ref t ∧ t ∉ ρ ∧ H t = some (.tup dvs))
def LamAt (f : Addr) (T : LamText) (clo : List (Str × Addr)) : Prop := f ∉ ρ ∧ (∃ κ, clo = L2.cloFrom κ T.scope.names []) ∧ ∃ (pm doc dV ctv : Value) (c' : Addr), H f = some (XO f (PySem.W.kdv_obj "<lambda>" T.qual T.params (.expr T.body) T.scope clo dV doc pm c' ctv)) ∧ c' ∉ ρ ∧ H c' = some (LamX.CodeO c' T.qual) ∧ DfAt ρ H T.dvs dV
/-- the cells of the names, by value -/
def CellsAt (clo : List (Str × Addr)) : List Str → List V → Prop
  | [], vs => vs = []
  | n :: ns, vs => ∃ v r c o u, vs = v :: r ∧ clo.lookup n = some c ∧ c ∉ ρ ∧ H c = some (.frz o (.own 0)) ∧ o.data = .cell (some u) ∧ RelV v u ∧ (∀ m ∈ ns, clo.lookup m ≠ some c) ∧ CellsAt clo ns r
mutual
def Rep : D → V → Prop
  | .non, v => v = .non
  | .bl b, v => v = .bl b
  | .int i, v => v = .int i
  | .str s, v => v = .str s
  | .ty n, v => v = .ty n
  | .cls c, v => ∃ C, mg c = some (.ref C) ∧ v = .ref C
  | .tup ds, v => ∃ a vs, v = .ref a ∧ TupAt K ρ H a vs ∧ RepL ds vs
  | .lst ds, v => ∃ a vs, v = .ref a ∧ LstAt ρ H a vs ∧ RepL ds vs
  | .dct ks ds, v => ∃ a kv vs, v = .ref a ∧ DctAt ρ H a kv vs ∧ RepL ks kv ∧ RepL ds vs
  | .ins c ns ds, v => ∃ a C dx fs, v = .ref a ∧ a ∉ ρ ∧ mg c = some (.ref C) ∧ H a = some (.ins C dx fs) ∧ fs.map (·.1) = ns ∧ RepL ds (fs.map (·.2))
  | .ptr n, v => ∃ a, v = .ref a ∧ ρ[n]? = some a
  | .scr xs, v => ∃ a, v = .ref a ∧ ScrAt K ρ H a (xs.map V.int)
  | .exc c ns ds, v => ∃ a C d fs, v = .ref a ∧ a ∉ ρ ∧ d ∉ ρ ∧ mg c = some (.ref C) ∧ H a = some (ExD a C d) ∧ H d = some (.xd fs) ∧ fs.map (·.1) = ns ∧ RepL ds (fs.map (·.2))
  | .lam T clo, v => ∃ f, v = .ref f ∧ LamAt ρ H f T clo
  | .lamc T caps, v => ∃ f clo vs, v = .ref f ∧ LamAt ρ H f T clo ∧ CellsAt ρ H clo T.names vs ∧ RepL caps vs
def RepL : List D → List V → Prop
  | [], vs => vs = []
  | d :: ds, vs => ∃ v r, vs = v :: r ∧ Rep d v ∧ RepL ds r
end
def MRep (a : Addr) : MO → Prop
  | .lst ds => ∃ vs, H a = some (.lst vs) ∧ RepL K mg ρ H ds vs
  | .dct lk ks ds => ∃ kvs : List (Key × V), (if lk = true then Rd H a (.dK kvs) else H a = some (.dK kvs)) ∧ RepL K mg ρ H ks (kvs.map (fun p => kV p.1)) ∧ RepL K mg ρ H ds (kvs.map (·.2))
  | .ins c ns ds => ∃ C dx fs, mg c = some (.ref C) ∧ H a = some (.ins C dx fs) ∧ fs.map (·.1) = ns ∧ RepL K mg ρ H ds (fs.map (·.2))
  | .tab P q => a = P ∧ ∃ ps : Array Value, H a = some (.tbl ps) ∧ TriplesOk ps.toList ∧ ∀ (pos : Pos) (cv : Value), codeAmong pos ps.toList = some cv → ∃ c, cv = .ref c ∧ c ∉ ρ ∧ H c = some (LamX.CodeO c q)
/-- the store is held: the n-th thing stands at the n-th address -/
structure WOk (S : Store) : Prop where
  len : ρ.length = S.length
  nd : ρ.Nodup
  tr : ∀ a ∈ ρ, H a ≠ none
  ob : ∀ (n : Nat) a m, ρ[n]? = some a → S[n]? = some m → MRep K mg ρ H a m
/-- the slots -/
structure RSt (σ : St) (sl : Sl) : Prop where
  len : σ.length = sl.length
  at_ : ∀ (i : Nat) d, sl[i]? = some (some d) → ∃ v, σ[i]? = some (some v) ∧ Rep K mg ρ H d v
/-- an exception of the class c with its fields, its class at C, its own dict at dd -/
def ExRep (e : D) (C : Value) (dd : Option Addr) : Prop := ∃ c ns ds Ca da fs, e = .ins c ns ds ∧ mg c = some (.ref Ca) ∧ C = .ref Ca ∧ dd = some da ∧ da ∉ ρ ∧ H da = some (.xd fs) ∧ fs.map (·.1) = ns ∧ RepL K mg ρ H ds (fs.map (·.2))
end
/-- new handles are new; all but the handles' things stay -/
structure Ext (ρ : List Addr) (H : Hp) (ρ' : List Addr) (H' : Hp) : Prop where
  pre : ∃ t, ρ' = ρ ++ t
  new : ∀ a ∈ ρ', a ∉ ρ → H a = none
  /-- a dict may be locked for good -/
  keep : ∀ a o, a ∉ ρ → H a = some o → H' a = some o ∨ ((∃ kvs, o = .dK kvs) ∧ ∃ od, H' a = some (.frz od o))
section
variable {K : PySem.W.Frag} {mg : Str → Option Value} {ρ ρ' ρ'' : List Addr} {H H' H'' : Hp}
theorem Ext.refl : Ext ρ H ρ H := ⟨⟨[], by simp⟩, fun a h n => absurd h n, fun _ _ _ h => .inl h⟩
/-- what is no dict stays -/
theorem Ext.kept (x : Ext ρ H ρ' H') {a : Addr} {o : HO} (n : a ∉ ρ) (h : H a = some o) (nd : ∀ kvs, o ≠ .dK kvs) : H' a = some o := by
  rcases x.keep a o n h with h | ⟨⟨kvs, e⟩, _⟩
  · exact h
  · exact absurd e (nd kvs)
theorem Ext.nin (x : Ext ρ H ρ' H') {a : Addr} {o : HO} (n : a ∉ ρ) (h : H a = some o) : a ∉ ρ' := fun q => by
  have := x.new a q n
  rw [h] at this; cases this
theorem Ext.trans (x : Ext ρ H ρ' H') (y : Ext ρ' H' ρ'' H'') : Ext ρ H ρ'' H'' := by
  obtain ⟨t, e⟩ := x.pre
  obtain ⟨t', e'⟩ := y.pre
  refine ⟨⟨t ++ t', by rw [e', e, List.append_assoc]⟩, fun a h n => ?_, fun a o n h => ?_⟩
  rotate_left
  · rcases x.keep a o n h with h1 | ⟨hk, od, h1⟩
    · exact y.keep a o (x.nin n h) h1
    · exact .inr ⟨hk, od, y.kept (x.nin n h) h1 (by intros; nofun)⟩
  by_cases q : a ∈ ρ'
  · exact x.new a q n
  · have z := y.new a h q
    cases e : H a with
    | none => rfl
    | some o =>
      rcases x.keep a o n e with this | ⟨_, _, this⟩ <;> (rw [z] at this; cases this)
theorem Ext.get (x : Ext ρ H ρ' H') {n : Nat} {a : Addr} (h : ρ[n]? = some a) : ρ'[n]? = some a := by
  obtain ⟨t, e⟩ := x.pre
  subst e
  have := (List.getElem?_eq_some_iff.mp h).1
  rw [List.getElem?_append_left this]; exact h
theorem Rd.ext (x : Ext ρ H ρ' H') {a : Addr} {u : HO} (n : a ∉ ρ) (r : Rd H a u) : a ∉ ρ' ∧ Rd H' a u := by
  rcases r with r | ⟨o, r⟩
  · rcases x.keep _ _ n r with q | ⟨_, od, q⟩
    · exact ⟨x.nin n r, .inl q⟩
    · exact ⟨x.nin n r, .inr ⟨od, q⟩⟩
  · exact ⟨x.nin n r, .inr ⟨o, x.kept n r (by intros; nofun)⟩⟩
/-- keeping what is read: for values -/
structure Kp (ρ : List Addr) (H : Hp) (ρ' : List Addr) (H' : Hp) : Prop where
  rd : ∀ a u, (∀ o u', u ≠ HO.frz o u') → (∀ y, u ≠ HO.own y) → a ∉ ρ → Rd H a u → a ∉ ρ' ∧ Rd H' a u
  lst : ∀ a vs, a ∉ ρ → H a = some (.lst vs) → H' a = some (.lst vs)
  tup : ∀ a vs, a ∉ ρ → H a = some (.tup vs) → H' a = some (.tup vs)
  ins : ∀ a C dx fs, a ∉ ρ → H a = some (.ins C dx fs) → H' a = some (.ins C dx fs)
  get : ∀ (n : Nat) a, ρ[n]? = some a → ρ'[n]? = some a
  ext : ∀ a φ, a ∉ ρ → H a = some (.ext φ) → a ∉ ρ' ∧ H' a = some (.ext φ)
  xd : ∀ a fs, a ∉ ρ → H a = some (.xd fs) → a ∉ ρ' ∧ H' a = some (.xd fs)
theorem Ext.kp (x : Ext ρ H ρ' H') : Kp ρ H ρ' H' := ⟨fun a u _ _ n r => Rd.ext x n r, fun a vs n h => x.kept n h (by intros; nofun), fun a vs n h => x.kept n h (by intros; nofun), fun a C dx fs n h => x.kept n h (by intros; nofun), fun n a h => x.get h, fun a φ n h => ⟨x.nin n h, x.kept n h (by intros; nofun)⟩, fun a fs n h => ⟨x.nin n h, x.kept n h (by intros; nofun)⟩⟩
theorem ScrAt.kp (x : Kp ρ H ρ' H') {a : Addr} {vs : List V} (h : ScrAt K ρ H a vs) : ScrAt K ρ' H' a vs := by
  rcases h with ⟨n, r⟩ | h
  · exact .inl (x.rd _ _ (by intros; nofun) (by intros; nofun) n r)
  · exact .inr h
theorem LstAt.kp (x : Kp ρ H ρ' H') {a : Addr} {vs : List V} (h : LstAt ρ H a vs) : LstAt ρ' H' a vs := ⟨(x.rd _ _ (by intros; nofun) (by intros; nofun) h.1 (.inl h.2)).1, x.lst _ _ h.1 h.2⟩
theorem TupAt.kp (x : Kp ρ H ρ' H') {a : Addr} {vs : List V} (h : TupAt K ρ H a vs) : TupAt K ρ' H' a vs := by
  rcases h with ⟨n, r⟩ | h
  · exact .inl ⟨(x.rd _ _ (by intros; nofun) (by intros; nofun) n (.inl r)).1, x.tup _ _ n r⟩
  · exact .inr h
theorem DctAt.kp (x : Kp ρ H ρ' H') {a : Addr} {ks vs : List V} (h : DctAt ρ H a ks vs) : DctAt ρ' H' a ks vs := by
  obtain ⟨n, kvs, r, e1, e2⟩ := h
  obtain ⟨n', r'⟩ := x.rd _ _ (by intros; nofun) (by intros; nofun) n r
  exact ⟨n', kvs, r', e1, e2⟩
theorem DfAt.kp (x : Kp ρ H ρ' H') {dvs : List V} {dV : Value} (h : DfAt ρ H dvs dV) : DfAt ρ' H' dvs dV := by
  rcases h with h | ⟨n, t, e, nt, ht⟩
  · exact .inl h
  · exact .inr ⟨n, t, e, (x.rd _ _ (by intros; nofun) (by intros; nofun) nt (.inl ht)).1, x.tup _ _ nt ht⟩
theorem LamAt.kp (x : Kp ρ H ρ' H') {f : Addr} {T : LamText} {clo : List (Str × Addr)} (h : LamAt ρ H f T clo) : LamAt ρ' H' f T clo := by
  obtain ⟨n, hκ, pm, doc, dV, ctv, c', h1, nc, h2, h3⟩ := h
  obtain ⟨n', h1'⟩ := x.ext _ _ n h1
  obtain ⟨nc', h2'⟩ := x.ext _ _ nc h2
  exact ⟨n', hκ, pm, doc, dV, ctv, c', h1', nc', h2', h3.kp x⟩
/-- the cells that are known stay so -/
def FzK (ρ : List Addr) (H : Hp) (ρ' : List Addr) (H' : Hp) : Prop := ∀ a o u, a ∉ ρ → H a = some (.frz o u) → a ∉ ρ' ∧ H' a = some (.frz o u)
theorem Ext.fzk (x : Ext ρ H ρ' H') : FzK ρ H ρ' H' := fun a o u n h => ⟨x.nin n h, x.kept n h (by intros; nofun)⟩
theorem CellsAt.kp (x : FzK ρ H ρ' H') {clo : List (Str × Addr)} : ∀ {ns : List Str} {vs : List V}, CellsAt ρ H clo ns vs → CellsAt ρ' H' clo ns vs
  | [], _, h => h
  | n :: ns, _, ⟨v, r, c, o, u, e, h1, n1, h2, h3, h4, hd, h5⟩ => by
    obtain ⟨n1', h2'⟩ := x _ _ _ n1 h2
    exact ⟨v, r, c, o, u, e, h1, n1', h2', h3, h4, hd, CellsAt.kp x h5⟩
mutual
theorem Rep.kp (x : Kp ρ H ρ' H') : ∀ (d : D) (v : V), (FzK ρ H ρ' H' ∨ noLc d = true) → Rep K mg ρ H d v → Rep K mg ρ' H' d v
  | .non, v, hf, h => by rw [Rep] at h ⊢; exact h
  | .bl b, v, hf, h => by rw [Rep] at h ⊢; exact h
  | .int i, v, hf, h => by rw [Rep] at h ⊢; exact h
  | .str s, v, hf, h => by rw [Rep] at h ⊢; exact h
  | .ty n, v, hf, h => by rw [Rep] at h ⊢; exact h
  | .cls c, v, hf, h => by rw [Rep] at h ⊢; exact h
  | .tup ds, v, hf, h => by
    rw [Rep] at h ⊢
    obtain ⟨a, vs, e, t, r⟩ := h
    exact ⟨a, vs, e, t.kp x, RepL.kp x ds vs (hf.imp id fun q => by rw [noLc] at q; exact q) r⟩
  | .lst ds, v, hf, h => by
    rw [Rep] at h ⊢
    obtain ⟨a, vs, e, t, r⟩ := h
    exact ⟨a, vs, e, t.kp x, RepL.kp x ds vs (hf.imp id fun q => by rw [noLc] at q; exact q) r⟩
  | .dct ks ds, v, hf, h => by
    rw [Rep] at h ⊢
    obtain ⟨a, kv, vs, e, t, r1, r2⟩ := h
    exact ⟨a, kv, vs, e, t.kp x, RepL.kp x ks kv (hf.imp id fun q => by rw [noLc, Bool.and_eq_true] at q; exact q.1) r1, RepL.kp x ds vs (hf.imp id fun q => by rw [noLc, Bool.and_eq_true] at q; exact q.2) r2⟩
  | .ins c ns ds, v, hf, h => by
    rw [Rep] at h ⊢
    obtain ⟨a, C, dx, fs, e, n, hm, ha, hn, r⟩ := h
    exact ⟨a, C, dx, fs, e, (x.rd a _ (by intros; nofun) (by intros; nofun) n (.inl ha)).1, hm, x.ins a C dx fs n ha, hn, RepL.kp x ds _ (hf.imp id fun q => by rw [noLc] at q; exact q) r⟩
  | .ptr n, v, hf, h => by
    rw [Rep] at h ⊢
    obtain ⟨a, e, q⟩ := h
    exact ⟨a, e, x.get n a q⟩
  | .scr xs, v, hf, h => by
    rw [Rep] at h ⊢
    obtain ⟨a, e, q⟩ := h
    exact ⟨a, e, q.kp x⟩
  | .exc c ns ds, v, hf, h => by
    rw [Rep] at h ⊢
    obtain ⟨a, C, d, fs, e, n, nd, hm, ha, hd, hn, r⟩ := h
    obtain ⟨n', ha'⟩ := x.ext _ _ n ha
    obtain ⟨nd', hd'⟩ := x.xd _ _ nd hd
    exact ⟨a, C, d, fs, e, n', nd', hm, ha', hd', hn, RepL.kp x ds _ (hf.imp id fun q => by rw [noLc] at q; exact q) r⟩
  | .lam T clo, v, hf, h => by
    rw [Rep] at h ⊢
    obtain ⟨f, e, h⟩ := h
    exact ⟨f, e, h.kp x⟩
  | .lamc T caps, v, hf, h => by
    rw [Rep] at h ⊢
    obtain ⟨f, clo, vs, e, h1, h2, r⟩ := h
    rcases hf with hf | hf
    · exact ⟨f, clo, vs, e, h1.kp x, h2.kp hf, RepL.kp x caps vs (.inl hf) r⟩
    · rw [noLc] at hf; cases hf
theorem RepL.kp (x : Kp ρ H ρ' H') : ∀ (ds : List D) (vs : List V), (FzK ρ H ρ' H' ∨ noLcL ds = true) → RepL K mg ρ H ds vs → RepL K mg ρ' H' ds vs
  | [], vs, _, h => by rw [RepL] at h ⊢; exact h
  | d :: ds, vs, hf, h => by
    rw [RepL] at h ⊢
    obtain ⟨v, r, e, h1, h2⟩ := h
    exact ⟨v, r, e, Rep.kp x d v (hf.imp id fun q => by rw [noLcL, Bool.and_eq_true] at q; exact q.1) h1, RepL.kp x ds r (hf.imp id fun q => by rw [noLcL, Bool.and_eq_true] at q; exact q.2) h2⟩
end
theorem Rep.ext (x : Ext ρ H ρ' H') {d : D} {v : V} (h : Rep K mg ρ H d v) : Rep K mg ρ' H' d v := Rep.kp x.kp d v (.inl x.fzk) h
theorem RepL.ext (x : Ext ρ H ρ' H') {ds : List D} {vs : List V} (h : RepL K mg ρ H ds vs) : RepL K mg ρ' H' ds vs := RepL.kp x.kp ds vs (.inl x.fzk) h
theorem RSt.ext (x : Ext ρ H ρ' H') {σ : St} {sl : Sl} (h : RSt K mg ρ H σ sl) : RSt K mg ρ' H' σ sl := ⟨h.len, fun i d e => by
  obtain ⟨v, e1, r⟩ := h.at_ i d e
  exact ⟨v, e1, r.ext x⟩⟩
theorem ScrAt.sq {a : Addr} {vs : List V} (h : ScrAt K ρ H a vs) : SqL K H a vs := by
  rcases h with ⟨_, r⟩ | h
  · exact .inl r
  · exact .inr h
theorem LstAt.sq {a : Addr} {vs : List V} (h : LstAt ρ H a vs) : SqL K H a vs := .inl (.inl h.2)
theorem TupAt.sq {a : Addr} {vs : List V} (h : TupAt K ρ H a vs) : SqT K H a vs := by
  rcases h with ⟨_, r⟩ | h
  · exact .inl (.inl r)
  · exact .inr h
theorem RepL.len : ∀ {ds : List D} {vs : List V}, RepL K mg ρ H ds vs → ds.length = vs.length
  | [], _, h => by rw [RepL] at h; subst h; rfl
  | d :: ds, _, h => by
    rw [RepL] at h
    obtain ⟨v, r, e, _, h2⟩ := h
    subst e
    simp [RepL.len h2]
theorem RepL.get : ∀ {ds : List D} {vs : List V} {i : Nat} {d : D}, RepL K mg ρ H ds vs → ds[i]? = some d → ∃ v, vs[i]? = some v ∧ Rep K mg ρ H d v
  | [], _, _, _, _, e => by simp at e
  | x :: ds, _, 0, d, h, e => by
    rw [RepL] at h
    obtain ⟨v, r, e', h1, _⟩ := h
    subst e'
    simp at e; subst e
    exact ⟨v, by simp, h1⟩
  | x :: ds, _, i + 1, d, h, e => by
    rw [RepL] at h
    obtain ⟨v, r, e', _, h2⟩ := h
    subst e'
    obtain ⟨w, e1, q⟩ := RepL.get (i := i) h2 (by simpa using e)
    exact ⟨w, by simpa using e1, q⟩
theorem RepL.get' : ∀ {ds : List D} {vs : List V} {i : Nat} {v : V}, RepL K mg ρ H ds vs → vs[i]? = some v → ∃ d, ds[i]? = some d ∧ Rep K mg ρ H d v := fun {ds vs i v} h e => by
  have hl := h.len
  have hi := (List.getElem?_eq_some_iff.mp e).1
  have hd : ds[i]? = some (ds[i]'(by omega)) := by simp
  obtain ⟨w, e1, q⟩ := h.get hd
  rw [e] at e1; cases e1
  exact ⟨_, hd, q⟩
theorem RepL.nil : RepL K mg ρ H [] [] := by rw [RepL]
theorem RepL.cons {d : D} {v : V} {ds : List D} {vs : List V} (h : Rep K mg ρ H d v) (r : RepL K mg ρ H ds vs) : RepL K mg ρ H (d :: ds) (v :: vs) := by
  rw [RepL]; exact ⟨v, vs, rfl, h, r⟩
theorem RepL.append : ∀ {ds es : List D} {vs ws : List V}, RepL K mg ρ H ds vs → RepL K mg ρ H es ws → RepL K mg ρ H (ds ++ es) (vs ++ ws)
  | [], _, _, _, h, q => by rw [RepL] at h; subst h; exact q
  | d :: ds, _, _, _, h, q => by
    rw [RepL] at h
    obtain ⟨v, r, e, h1, h2⟩ := h
    subst e
    exact RepL.cons h1 (RepL.append h2 q)
theorem RepL.set {d : D} {v : V} (h : Rep K mg ρ H d v) : ∀ {ds : List D} {vs : List V} (i : Nat), RepL K mg ρ H ds vs → RepL K mg ρ H (ds.set i d) (vs.set i v)
  | [], _, _, q => by rw [RepL] at q; subst q; exact RepL.nil
  | x :: ds, _, 0, q => by
    rw [RepL] at q
    obtain ⟨w, r, e, _, h2⟩ := q
    subst e
    exact RepL.cons h h2
  | x :: ds, _, i + 1, q => by
    rw [RepL] at q
    obtain ⟨w, r, e, h1, h2⟩ := q
    subst e
    exact RepL.cons h1 (RepL.set h i h2)
theorem RepL.take : ∀ {ds : List D} {vs : List V} (n : Nat), RepL K mg ρ H ds vs → RepL K mg ρ H (ds.take n) (vs.take n)
  | _, _, 0, _ => by simp only [List.take_zero]; exact RepL.nil
  | [], _, n + 1, q => by rw [RepL] at q; subst q; exact RepL.nil
  | x :: ds, _, n + 1, q => by
    rw [RepL] at q
    obtain ⟨w, r, e, h1, h2⟩ := q
    subst e
    exact RepL.cons h1 (RepL.take n h2)
theorem RepL.drop : ∀ {ds : List D} {vs : List V} (n : Nat), RepL K mg ρ H ds vs → RepL K mg ρ H (ds.drop n) (vs.drop n)
  | _, _, 0, q => by simpa using q
  | [], _, n + 1, q => by rw [RepL] at q; subst q; exact RepL.nil
  | x :: ds, _, n + 1, q => by
    rw [RepL] at q
    obtain ⟨w, r, e, h1, h2⟩ := q
    subst e
    simpa using RepL.drop n h2
end
/-! ### the readings -/
section
variable (K : PySem.W.Frag) (mg : Str → Option Value)
/-- behind an expression -/
def PostE (W : Value → Option Addr → Hp → Prop) (ρ : List Addr) (H : Hp) (Q : V → Hp → Prop) : Out D → Prop
  | .ok d S' => ∀ v ρ' H', Ext ρ H ρ' H' → WOk K mg ρ' H' S' → Rep K mg ρ' H' d v → Q v H'
  | .ex e S' => ∀ C dd ρ' H', Ext ρ H ρ' H' → WOk K mg ρ' H' S' → ExRep K mg ρ' H' e C dd → W C dd H'
  | .bad => False
def PostA (W : Value → Option Addr → Hp → Prop) (ρ : List Addr) (H : Hp) (Q : List V → Hp → Prop) : Out (List D) → Prop
  | .ok ds S' => ∀ vs ρ' H', Ext ρ H ρ' H' → WOk K mg ρ' H' S' → RepL K mg ρ' H' ds vs → Q vs H'
  | .ex e S' => ∀ C dd ρ' H', Ext ρ H ρ' H' → WOk K mg ρ' H' S' → ExRep K mg ρ' H' e C dd → W C dd H'
  | .bad => False
def PostB (W : Value → Option Addr → Hp → Prop) (ρ : List Addr) (H : Hp) (Q : Bool → Hp → Prop) : Out Bool → Prop
  | .ok b S' => ∀ ρ' H', Ext ρ H ρ' H' → WOk K mg ρ' H' S' → Q b H'
  | .ex e S' => ∀ C dd ρ' H', Ext ρ H ρ' H' → WOk K mg ρ' H' S' → ExRep K mg ρ' H' e C dd → W C dd H'
  | .bad => False
def PostS (W : WX) (ρ : List Addr) (H : Hp) (Dd : Ends) : SO → Prop
  | .nx sl S' => ∀ σ' ρ' H', Ext ρ H ρ' H' → WOk K mg ρ' H' S' → RSt K mg ρ' H' σ' sl → Dd.nx σ' H'
  | .bk sl S' => ∀ σ' ρ' H', Ext ρ H ρ' H' → WOk K mg ρ' H' S' → RSt K mg ρ' H' σ' sl → Dd.bk σ' H'
  | .ct sl S' => ∀ σ' ρ' H', Ext ρ H ρ' H' → WOk K mg ρ' H' S' → RSt K mg ρ' H' σ' sl → Dd.ct σ' H'
  | .rt d S' => ∀ v ρ' H', Ext ρ H ρ' H' → WOk K mg ρ' H' S' → Rep K mg ρ' H' d v → Dd.rt v H'
  | .ex e sl S' => ∀ C dd σ' ρ' H', Ext ρ H ρ' H' → WOk K mg ρ' H' S' → RSt K mg ρ' H' σ' sl → ExRep K mg ρ' H' e C dd → W C dd σ' H'
  | .bad => False
def trE (W : WX) (f : EX) : TE := fun σ H Q => ∃ ρ S sl, WOk K mg ρ H S ∧ RSt K mg ρ H σ sl ∧ PostE K mg (fun C d H' => W C d σ H') ρ H Q (f sl S)
def trA (W : WX) (f : AX) : TA := fun σ H Q => ∃ ρ S sl, WOk K mg ρ H S ∧ RSt K mg ρ H σ sl ∧ PostA K mg (fun C d H' => W C d σ H') ρ H Q (f sl S)
def trB (W : WX) (f : BX) : TT := fun σ H Q => ∃ ρ S sl, WOk K mg ρ H S ∧ RSt K mg ρ H σ sl ∧ PostB K mg (fun C d H' => W C d σ H') ρ H Q (f sl S)
def trS (W : WX) (f : SX) : TS := fun Dd σ H => ∃ ρ S sl, WOk K mg ρ H S ∧ RSt K mg ρ H σ sl ∧ PostS K mg W ρ H Dd (f sl S)
end
/-- e of the code is f on data -/
def E (X : Cx) (W : WX) (e : Expr) (f : EX) : Prop := PE X e (trE X.K X.mg W f)
def EA (X : Cx) (W : WX) (es : List Expr) (f : AX) : Prop := PA X es (trA X.K X.mg W f)
def EB (X : Cx) (W : WX) (e : Expr) (f : BX) : Prop := PT X e (trB X.K X.mg W f)
def ES (X : Cx) (W : WX) (st : Stmt) (f : SX) : Prop := PS X st (trS X.K X.mg W f)
def ESs (X : Cx) (W : WX) (st : List Stmt) (f : SX) : Prop := PSs X st (trS X.K X.mg W f)
section
variable {X : Cx}
theorem PE.imp {e : Expr} {t t' : TE} (h : PE X e t) (k : ∀ σ H Q, t' σ H Q → t σ H Q) : PE X e t' := ⟨fun pins s σ H Q I q => h.run pins s σ H Q I (k σ H Q q)⟩
theorem PA.imp {e : List Expr} {t t' : TA} (h : PA X e t) (k : ∀ σ H Q, t' σ H Q → t σ H Q) : PA X e t' := ⟨fun pos pins s σ H Q I q => h.run pos pins s σ H Q I (k σ H Q q)⟩
theorem PT.imp {e : Expr} {t t' : TT} (h : PT X e t) (k : ∀ σ H Q, t' σ H Q → t σ H Q) : PT X e t' := ⟨fun pins s σ H Q I q => h.run pins s σ H Q I (k σ H Q q)⟩
theorem PS.imp {e : Stmt} {t t' : TS} (h : PS X e t) (k : ∀ D σ H, t' D σ H → t D σ H) : PS X e t' := ⟨fun pins s σ H D I q => h.run pins s σ H D I (k D σ H q)⟩
theorem PSs.imp {e : List Stmt} {t t' : TS} (h : PSs X e t) (k : ∀ D σ H, t' D σ H → t D σ H) : PSs X e t' := ⟨fun pins s σ H D I q => h.run pins s σ H D I (k D σ H q)⟩
end
section
variable {K : PySem.W.Frag} {mg : Str → Option Value} {ρ ρ' : List Addr} {H H' : Hp}
variable {W : Value → Option Addr → Hp → Prop}
theorem PostE.from {Q : V → Hp → Prop} {o : Out D} (x : Ext ρ H ρ' H') (h : PostE K mg W ρ H Q o) : PostE K mg W ρ' H' Q o := by
  cases o with
  | ok d S => exact fun v ρ2 H2 y w r => h v ρ2 H2 (x.trans y) w r
  | ex e S => exact fun C dd ρ2 H2 y w r => h C dd ρ2 H2 (x.trans y) w r
  | bad => exact h
theorem PostA.from {Q : List V → Hp → Prop} {o : Out (List D)} (x : Ext ρ H ρ' H') (h : PostA K mg W ρ H Q o) : PostA K mg W ρ' H' Q o := by
  cases o with
  | ok d S => exact fun v ρ2 H2 y w r => h v ρ2 H2 (x.trans y) w r
  | ex e S => exact fun C dd ρ2 H2 y w r => h C dd ρ2 H2 (x.trans y) w r
  | bad => exact h
theorem PostB.from {Q : Bool → Hp → Prop} {o : Out Bool} (x : Ext ρ H ρ' H') (h : PostB K mg W ρ H Q o) : PostB K mg W ρ' H' Q o := by
  cases o with
  | ok d S => exact fun ρ2 H2 y w => h ρ2 H2 (x.trans y) w
  | ex e S => exact fun C dd ρ2 H2 y w r => h C dd ρ2 H2 (x.trans y) w r
  | bad => exact h
theorem PostS.from {Wx : WX} {Dd : Ends} {o : SO} (x : Ext ρ H ρ' H') (h : PostS K mg Wx ρ H Dd o) : PostS K mg Wx ρ' H' Dd o := by
  cases o with
  | nx sl S => exact fun σ ρ2 H2 y w r => h σ ρ2 H2 (x.trans y) w r
  | bk sl S => exact fun σ ρ2 H2 y w r => h σ ρ2 H2 (x.trans y) w r
  | ct sl S => exact fun σ ρ2 H2 y w r => h σ ρ2 H2 (x.trans y) w r
  | rt d S => exact fun v ρ2 H2 y w r => h v ρ2 H2 (x.trans y) w r
  | ex e sl S => exact fun C dd σ ρ2 H2 y w r1 r2 => h C dd σ ρ2 H2 (x.trans y) w r1 r2
  | bad => exact h
/-- an expression's end, then k's -/
theorem PostE.bindE {Q : V → Hp → Prop} {o : Out D} {k : D → Store → Out D} (h : PostE K mg W ρ H Q (o.bind k)) :
    PostE K mg W ρ H (fun v H1 => ∃ ρ1 S1 d, Ext ρ H ρ1 H1 ∧ WOk K mg ρ1 H1 S1 ∧ Rep K mg ρ1 H1 d v ∧ o = .ok d S1 ∧ PostE K mg W ρ1 H1 Q (k d S1)) o := by
  cases o with
  | ok d S => exact fun v ρ2 H2 y w r => ⟨ρ2, S, d, y, w, r, rfl, PostE.from y h⟩
  | ex e S => exact h
  | bad => exact h
theorem PostE.bindA {Q : List V → Hp → Prop} {o : Out D} {k : D → Store → Out (List D)} (h : PostA K mg W ρ H Q (o.bind k)) :
    PostE K mg W ρ H (fun v H1 => ∃ ρ1 S1 d, Ext ρ H ρ1 H1 ∧ WOk K mg ρ1 H1 S1 ∧ Rep K mg ρ1 H1 d v ∧ o = .ok d S1 ∧ PostA K mg W ρ1 H1 Q (k d S1)) o := by
  cases o with
  | ok d S => exact fun v ρ2 H2 y w r => ⟨ρ2, S, d, y, w, r, rfl, PostA.from y h⟩
  | ex e S => exact h
  | bad => exact h
theorem PostE.bindB {Q : Bool → Hp → Prop} {o : Out D} {k : D → Store → Out Bool} (h : PostB K mg W ρ H Q (o.bind k)) :
    PostE K mg W ρ H (fun v H1 => ∃ ρ1 S1 d, Ext ρ H ρ1 H1 ∧ WOk K mg ρ1 H1 S1 ∧ Rep K mg ρ1 H1 d v ∧ o = .ok d S1 ∧ PostB K mg W ρ1 H1 Q (k d S1)) o := by
  cases o with
  | ok d S => exact fun v ρ2 H2 y w r => ⟨ρ2, S, d, y, w, r, rfl, PostB.from y h⟩
  | ex e S => exact h
  | bad => exact h
theorem PostA.bindE {Q : V → Hp → Prop} {o : Out (List D)} {k : List D → Store → Out D} (h : PostE K mg W ρ H Q (o.bind k)) :
    PostA K mg W ρ H (fun v H1 => ∃ ρ1 S1 d, Ext ρ H ρ1 H1 ∧ WOk K mg ρ1 H1 S1 ∧ RepL K mg ρ1 H1 d v ∧ o = .ok d S1 ∧ PostE K mg W ρ1 H1 Q (k d S1)) o := by
  cases o with
  | ok d S => exact fun v ρ2 H2 y w r => ⟨ρ2, S, d, y, w, r, rfl, PostE.from y h⟩
  | ex e S => exact h
  | bad => exact h
theorem PostA.bindA {Q : List V → Hp → Prop} {o : Out (List D)} {k : List D → Store → Out (List D)} (h : PostA K mg W ρ H Q (o.bind k)) :
    PostA K mg W ρ H (fun v H1 => ∃ ρ1 S1 d, Ext ρ H ρ1 H1 ∧ WOk K mg ρ1 H1 S1 ∧ RepL K mg ρ1 H1 d v ∧ o = .ok d S1 ∧ PostA K mg W ρ1 H1 Q (k d S1)) o := by
  cases o with
  | ok d S => exact fun v ρ2 H2 y w r => ⟨ρ2, S, d, y, w, r, rfl, PostA.from y h⟩
  | ex e S => exact h
  | bad => exact h
theorem PostB.bindE {Q : V → Hp → Prop} {o : Out Bool} {k : Bool → Store → Out D} (h : PostE K mg W ρ H Q (o.bind k)) :
    PostB K mg W ρ H (fun b H1 => ∃ ρ1 S1, Ext ρ H ρ1 H1 ∧ WOk K mg ρ1 H1 S1 ∧ o = .ok b S1 ∧ PostE K mg W ρ1 H1 Q (k b S1)) o := by
  cases o with
  | ok d S => exact fun ρ2 H2 y w => ⟨ρ2, S, y, w, rfl, PostE.from y h⟩
  | ex e S => exact h
  | bad => exact h
theorem PostB.bindB {Q : Bool → Hp → Prop} {o : Out Bool} {k : Bool → Store → Out Bool} (h : PostB K mg W ρ H Q (o.bind k)) :
    PostB K mg W ρ H (fun b H1 => ∃ ρ1 S1, Ext ρ H ρ1 H1 ∧ WOk K mg ρ1 H1 S1 ∧ o = .ok b S1 ∧ PostB K mg W ρ1 H1 Q (k b S1)) o := by
  cases o with
  | ok d S => exact fun ρ2 H2 y w => ⟨ρ2, S, y, w, rfl, PostB.from y h⟩
  | ex e S => exact h
  | bad => exact h
end
end Z
/-! Z1: names, constants, operators, tests, calls of built-ins, displays. -/
namespace Z
open PySem PySem.Spec L2
/-! ### combinators -/
def eName (i : Nat) : EX := fun sl S => match sl[i]? with
  | some (some d) => .ok d S
  | _ => .bad
def eLit (d : D) : EX := fun _ S => .ok d S
abbrev Sem2 := D → D → Store → Out D
abbrev Sem1 := D → Store → Out D
abbrev SemL := List D → Store → Out D
def eBin (sem : Sem2) (fa fb : EX) : EX := fun sl S => (fa sl S).bind fun d S1 => (fb sl S1).bind fun e S2 => sem d e S2
def eUn (sem : Sem1) (fa : EX) : EX := fun sl S => (fa sl S).bind sem
def eArgs (sem : SemL) (fa : AX) : EX := fun sl S => (fa sl S).bind sem
def aNil : AX := fun _ S => .ok [] S
def aCons (f : EX) (g : AX) : AX := fun sl S => (f sl S).bind fun d S1 => (g sl S1).bind fun ds S2 => .ok (d :: ds) S2
def orS2 (f g : Sem2) : Sem2 := fun d e S => match f d e S with
  | .bad => g d e S
  | r => r
def orS1 (f g : Sem1) : Sem1 := fun d S => match f d S with
  | .bad => g d S
  | r => r
def orSL (f g : SemL) : SemL := fun d S => match f d S with
  | .bad => g d S
  | r => r
/-- a value that is a bool, as a test -/
def bVal (f : EX) : BX := fun sl S => (f sl S).bind fun d S1 => match d with
  | .bl b => .ok b S1
  | _ => .bad
def bNot (f : BX) : BX := fun sl S => (f sl S).bind fun b S1 => .ok (!b) S1
def bAnd (f g : BX) : BX := fun sl S => (f sl S).bind fun b S1 => if b = true then g sl S1 else .ok false S1
def bOr (f g : BX) : BX := fun sl S => (f sl S).bind fun b S1 => if b = true then .ok true S1 else g sl S1
def eAnd (f g : EX) : EX := fun sl S => (f sl S).bind fun d S1 => match d with
  | .bl true => g sl S1
  | .bl false => .ok (.bl false) S1
  | _ => .bad
def eOr (f g : EX) : EX := fun sl S => (f sl S).bind fun d S1 => match d with
  | .bl true => .ok (.bl true) S1
  | .bl false => g sl S1
  | _ => .bad
def eNot (f : EX) : EX := fun sl S => (f sl S).bind fun d S1 => match d with
  | .bl b => .ok (.bl (!b)) S1
  | _ => .bad
def eIf (c : BX) (f g : EX) : EX := fun sl S => (c sl S).bind fun b S1 => if b = true then f sl S1 else g sl S1
/-- a < b < c -/
def eChain (s1 s2 : Sem2) (fa fb fc : EX) : EX := fun sl S => (fa sl S).bind fun d S1 => (fb sl S1).bind fun e S2 => (s1 d e S2).bind fun r S3 => match r with
  | .bl true => (fc sl S3).bind fun g S4 => s2 e g S4
  | .bl false => .ok (.bl false) S3
  | _ => .bad
/-! ### what is not raised -/
section
variable {X : Cx} {W : WX}
/-- an operator by data; it raises nothing -/
structure OpD (X : Cx) (f : Value → Value → Sem Value) (sem : Sem2) : Prop where
  go : ∃ r : R2, OpR X f r ∧ ∀ (Wp : Value → Option Addr → Hp → Prop) (ρ : List Addr) (H : Hp) (S : Store) (d e : D) (x y : V) (Q : VK), WOk X.K X.mg ρ H S → Rep X.K X.mg ρ H d x → Rep X.K X.mg ρ H e y → PostE X.K X.mg Wp ρ H Q (sem d e S) → r x y H Q
structure UnD (X : Cx) (f : Value → Sem Value) (sem : Sem1) : Prop where
  go : ∃ r : V → Hp → VK → Prop, UnR X f r ∧ ∀ (Wp : Value → Option Addr → Hp → Prop) (ρ : List Addr) (H : Hp) (S : Store) (d : D) (x : V) (Q : VK), WOk X.K X.mg ρ H S → Rep X.K X.mg ρ H d x → PostE X.K X.mg Wp ρ H Q (sem d S) → r x H Q
structure CallD (X : Cx) (f : Value) (sem : SemL) : Prop where
  go : ∃ r : List V → Hp → VK → Prop, CallR X f r ∧ ∀ (Wp : Value → Option Addr → Hp → Prop) (ρ : List Addr) (H : Hp) (S : Store) (ds : List D) (xs : List V) (Q : VK), WOk X.K X.mg ρ H S → RepL X.K X.mg ρ H ds xs → PostE X.K X.mg Wp ρ H Q (sem ds S) → r xs H Q
theorem OpD.or {f : Value → Value → Sem Value} {s t : Sem2} (h : OpD X f s) (h' : OpD X f t) : OpD X f (orS2 s t) := by
  obtain ⟨r, o, g⟩ := h.go
  obtain ⟨r', o', g'⟩ := h'.go
  refine ⟨_, o.or o', fun Wp ρ H S d e x y Q w rx ry p => ?_⟩
  unfold orS2 at p
  cases q : s d e S with
  | bad => rw [q] at p; exact .inr (g' Wp ρ H S d e x y Q w rx ry p)
  | ok a S' => rw [q] at p; exact .inl (g Wp ρ H S d e x y Q w rx ry (by rw [q]; exact p))
  | ex a S' => rw [q] at p; exact .inl (g Wp ρ H S d e x y Q w rx ry (by rw [q]; exact p))
theorem CallD.or {f : Value} {s t : SemL} (h : CallD X f s) (h' : CallD X f t) : CallD X f (orSL s t) := by
  obtain ⟨r, o, g⟩ := h.go
  obtain ⟨r', o', g'⟩ := h'.go
  refine ⟨_, CallR.or o o', fun Wp ρ H S d x Q w rx p => ?_⟩
  unfold orSL at p
  cases q : s d S with
  | bad => rw [q] at p; exact .inr (g' Wp ρ H S d x Q w rx p)
  | ok a S' => rw [q] at p; exact .inl (g Wp ρ H S d x Q w rx (by rw [q]; exact p))
  | ex a S' => rw [q] at p; exact .inl (g Wp ρ H S d x Q w rx (by rw [q]; exact p))
/-- an end that makes nothing -/
theorem post_ok {K : PySem.W.Frag} {mg : Str → Option Value} {Wp : Value → Option Addr → Hp → Prop} {ρ : List Addr} {H : Hp} {Q : VK} {d : D} {S : Store} {v : V} (h : PostE K mg Wp ρ H Q (.ok d S)) (w : WOk K mg ρ H S) (r : Rep K mg ρ H d v) : Q v H :=
  h v ρ H Ext.refl w r
/-! ### rules -/
theorem r_name {i : Nat} {x : Str} {pos : Pos} (hN : X.N[i]? = some x := by rfl) (hv : Vis X.env.scope x := by first | exact Or.inl rfl | exact Or.inr (Or.inl rfl) | exact Or.inr (Or.inr rfl)) (hd : (x == ("__debug__" : Str)) = false := by decide)
    (hcd : (x == ("__classdict__" : Str)) = false := by decide) : E X W (.Name x pos) (eName i) := by
  refine PE.imp (pe_var hN hv hd hcd) fun σ H Q h => ?_
  obtain ⟨ρ, S, sl, w, r, p⟩ := h
  unfold eName at p
  cases q : sl[i]? with
  | none => rw [q] at p; exact p.elim
  | some o =>
    cases o with
    | none => rw [q] at p; exact p.elim
    | some d =>
      rw [q] at p
      obtain ⟨v, e, rv⟩ := r.at_ i d q
      exact ⟨v, e, post_ok p w rv⟩
theorem r_int {i : Int} {j pos} : E X W (.Constant (.int i) j pos) (eLit (.int i)) := PE.imp pe_int fun σ H Q ⟨ρ, S, sl, w, r, p⟩ => post_ok (d := .int i) p w (by rw [Rep])
theorem r_bl {b : Bool} {j pos} : E X W (.Constant (.bool b) j pos) (eLit (.bl b)) := PE.imp pe_bl fun σ H Q ⟨ρ, S, sl, w, r, p⟩ => post_ok (d := .bl b) p w (by rw [Rep])
theorem r_non {j pos} : E X W (.Constant .none j pos) (eLit .non) := PE.imp pe_non fun σ H Q ⟨ρ, S, sl, w, r, p⟩ => post_ok (d := .non) p w (by rw [Rep])
theorem r_str {x : Str} {j pos} : E X W (.Constant (.str x) j pos) (eLit (.str x)) := PE.imp pe_str fun σ H Q ⟨ρ, S, sl, w, r, p⟩ => post_ok (d := .str x) p w (by rw [Rep])
/-- a built-in class as a value -/
theorem r_ty {x : Str} {n : String} {pos : Pos} (hg : Gl X x) (hm : X.mg x = none) (hv : bootBuiltins x = some (.type n)) (hn : x ≠ "__name__" := by decide) (hd : (x == ("__debug__" : Str)) = false := by decide) : E X W (.Name x pos) (eLit (.ty n)) :=
  PE.imp (pe_bltn (v := .ty n) hg hm hv rfl hn hd) fun σ H Q ⟨ρ, S, sl, w, r, p⟩ => post_ok (d := .ty n) p w (by rw [Rep])
/-- an own class as a value -/
theorem r_cls {x : Str} {C : Addr} {pos : Pos} (hg : Gl X x) (hm : X.mg x = some (.ref C)) (hd : (x == ("__debug__" : Str)) = false := by decide) : E X W (.Name x pos) (eLit (.cls x)) :=
  PE.imp (pe_glob (v := .ref C) hg hm rfl hd) fun σ H Q ⟨ρ, S, sl, w, r, p⟩ => post_ok (d := .cls x) p w (by rw [Rep]; exact ⟨C, hm, rfl⟩)
theorem PostE.mono {K : PySem.W.Frag} {mg : Str → Option Value} {Wp : Value → Option Addr → Hp → Prop} {ρ : List Addr} {H : Hp} {Q Q' : VK} {o : Out D} (h : PostE K mg Wp ρ H Q o) (k : ∀ v H', Q v H' → Q' v H') : PostE K mg Wp ρ H Q' o := by
  cases o with
  | ok d S => exact fun v ρ' H' x w r => k _ _ (h v ρ' H' x w r)
  | ex e S => exact h
  | bad => exact h
theorem PostA.mono {K : PySem.W.Frag} {mg : Str → Option Value} {Wp : Value → Option Addr → Hp → Prop} {ρ : List Addr} {H : Hp} {Q Q' : List V → Hp → Prop} {o : Out (List D)} (h : PostA K mg Wp ρ H Q o) (k : ∀ v H', Q v H' → Q' v H') : PostA K mg Wp ρ H Q' o := by
  cases o with
  | ok d S => exact fun v ρ' H' x w r => k _ _ (h v ρ' H' x w r)
  | ex e S => exact h
  | bad => exact h
theorem PostB.mono {K : PySem.W.Frag} {mg : Str → Option Value} {Wp : Value → Option Addr → Hp → Prop} {ρ : List Addr} {H : Hp} {Q Q' : Bool → Hp → Prop} {o : Out Bool} (h : PostB K mg Wp ρ H Q o) (k : ∀ v H', Q v H' → Q' v H') : PostB K mg Wp ρ H Q' o := by
  cases o with
  | ok d S => exact fun ρ' H' x w => k _ _ (h ρ' H' x w)
  | ex e S => exact h
  | bad => exact h
variable {a b c : Expr} {fa fb fc : EX} {pos : Pos}
/-- one value, then what is done with it -/
theorem un_imp {f : EX} {g : Sl → D → Store → Out D} {K : PySem.W.Frag} {mg : Str → Option Value} {σ : L2.St} {H : Hp} {Q : VK} {k : V → Hp → Prop} (h : trE K mg W (fun sl S => (f sl S).bind (g sl)) σ H Q)
    (hk : ∀ ρ S sl H1 d v, WOk K mg ρ H1 S → RSt K mg ρ H1 σ sl → Rep K mg ρ H1 d v → PostE K mg (fun C d H' => W C d σ H') ρ H1 Q (g sl d S) → k v H1) : trE K mg W f σ H k := by
  obtain ⟨ρ, S, sl, w, r, p⟩ := h
  exact ⟨ρ, S, sl, w, r, PostE.mono (PostE.bindE p) fun v H1 ⟨ρ1, S1, d, x1, w1, r1, _, p1⟩ => hk ρ1 S1 sl H1 d v w1 (r.ext x1) r1 p1⟩
theorem bin_imp {g : Sem2} {K : PySem.W.Frag} {mg : Str → Option Value} {σ : L2.St} {H : Hp} {Q : VK} {k : V → V → Hp → Prop} (h : trE K mg W (eBin g fa fb) σ H Q)
    (hk : ∀ ρ S H2 d e x y, WOk K mg ρ H2 S → Rep K mg ρ H2 d x → Rep K mg ρ H2 e y → PostE K mg (fun C d H' => W C d σ H') ρ H2 Q (g d e S) → k x y H2) : trE K mg W fa σ H fun x H1 => trE K mg W fb σ H1 fun y H2 => k x y H2 := by
  obtain ⟨ρ, S, sl, w, r, p⟩ := h
  refine ⟨ρ, S, sl, w, r, PostE.mono (PostE.bindE p) fun v H1 ⟨ρ1, S1, d, x1, w1, r1, _, p1⟩ => ?_⟩
  refine ⟨ρ1, S1, sl, w1, r.ext x1, PostE.mono (PostE.bindE p1) fun y H2 ⟨ρ2, S2, e, x2, w2, r2, _, p2⟩ => ?_⟩
  exact hk ρ2 S2 H2 d e v y w2 (r1.ext x2) r2 p2
theorem r_bin {op : Operator} {sem : Sem2} (ho : OpD X (binaryOp op) sem) (ha : E X W a fa) (hb : E X W b fb) : E X W (.BinOp a op b pos) (eBin sem fa fb) := by
  obtain ⟨r, o, g⟩ := ho.go
  exact PE.imp (pe_op o ha hb) fun σ H Q h => bin_imp h fun ρ S H2 d e x y w rx ry p => g _ ρ H2 S d e x y Q w rx ry p
theorem r_cmp {op : CmpOp} {sem : Sem2} (ho : OpD X (compareOp op) sem) (ha : E X W a fa) (hb : E X W b fb) (hm : behindInMarks op b = false := by first | exact nomark _ | rfl) : E X W (.Compare a [op] [b] pos) (eBin sem fa fb) := by
  obtain ⟨r, o, g⟩ := ho.go
  exact PE.imp (pe_cmpR o ha hb hm) fun σ H Q h => bin_imp h fun ρ S H2 d e x y w rx ry p => g _ ρ H2 S d e x y Q w rx ry p
/-- a test by a comparison -/
theorem b_cmp {op : CmpOp} {sem : Sem2} (ho : OpD X (compareOp op) sem) (ha : E X W a fa) (hb : E X W b fb) (hm : behindInMarks op b = false := by first | exact nomark _ | rfl) : EB X W (.Compare a [op] [b] pos) (bVal (eBin sem fa fb)) := by
  obtain ⟨r, o, g⟩ := ho.go
  refine PT.imp (pt_cmpR o ha hb hm) fun σ H Q h => ?_
  obtain ⟨ρ, S, sl, w, rs, p⟩ := h
  have p' := PostE.bindB p
  refine bin_imp (Q := fun x H' => ∃ k, x = .bl k ∧ Q k H') ⟨ρ, S, sl, w, rs, PostE.mono p' fun v H1 ⟨ρ1, S1, d, x1, w1, r1, _, p1⟩ => ?_⟩ fun ρ S H2 d e x y w rx ry p => g _ ρ H2 S d e x y _ w rx ry p
  cases d with
  | bl k =>
    rw [Rep] at r1
    exact ⟨k, r1, p1 ρ1 H1 Ext.refl w1⟩
  | _ => exact p1.elim
/-- a bool's value as a test -/
theorem b_val (ha : E X W a fa) (he : ∀ whole, isTrue a X.env whole = (do let v ← whole; standAt a.pos; holding [v] (truthy v)) := by intro _; rfl) : EB X W a (bVal fa) := by
  refine PT.imp (pt_val ha he) fun σ H Q h => ?_
  obtain ⟨ρ, S, sl, w, rs, p⟩ := h
  refine ⟨ρ, S, sl, w, rs, PostE.mono (PostE.bindB p) fun v H1 ⟨ρ1, S1, d, x1, w1, r1, _, p1⟩ => ?_⟩
  cases d with
  | bl k =>
    rw [Rep] at r1
    exact ⟨k, r1, p1 ρ1 H1 Ext.refl w1⟩
  | _ => exact p1.elim
/-- and, or, not as tests -/
def EW (X : Cx) (W : WX) (e : Expr) (f : BX) : Prop := PW X e (trB X.K X.mg W f)
theorem EW.eb {e : Expr} {f : BX} (h : EW X W e f) : EB X W e f := PW.pt h
theorem PW.imp {e : Expr} {t t' : TT} (h : PW X e t) (k : ∀ σ H Q, t' σ H Q → t σ H Q) : PW X e t' := ⟨fun wh pins s σ H Q I q => h.run wh pins s σ H Q I (k σ H Q q)⟩
variable {ga gb : BX} {rest : List Expr}
theorem w_and1 (ha : EB X W a ga) : EW X W (.BoolOp .And [a] pos) ga := pw_and1 ha
theorem w_or1 (ha : EB X W a ga) : EW X W (.BoolOp .Or [a] pos) ga := pw_or1 ha
theorem w_and (ha : EB X W a ga) (hb : EW X W (.BoolOp .And (b :: rest) pos) gb) : EW X W (.BoolOp .And (a :: b :: rest) pos) (bAnd ga gb) := by
  refine PW.imp (pw_and ha hb) fun σ H Q h => ?_
  obtain ⟨ρ, S, sl, w, rs, p⟩ := h
  refine ⟨ρ, S, sl, w, rs, PostB.mono (PostB.bindB p) fun k H1 ⟨ρ1, S1, x1, w1, _, p1⟩ => ?_⟩
  cases k with
  | true => exact ⟨ρ1, S1, sl, w1, rs.ext x1, p1⟩
  | false => exact p1 ρ1 H1 Ext.refl w1
theorem w_or (ha : EB X W a ga) (hb : EW X W (.BoolOp .Or (b :: rest) pos) gb) : EW X W (.BoolOp .Or (a :: b :: rest) pos) (bOr ga gb) := by
  refine PW.imp (pw_or ha hb) fun σ H Q h => ?_
  obtain ⟨ρ, S, sl, w, rs, p⟩ := h
  refine ⟨ρ, S, sl, w, rs, PostB.mono (PostB.bindB p) fun k H1 ⟨ρ1, S1, x1, w1, _, p1⟩ => ?_⟩
  cases k with
  | false => exact ⟨ρ1, S1, sl, w1, rs.ext x1, p1⟩
  | true => exact p1 ρ1 H1 Ext.refl w1
theorem b_not (ha : EB X W a ga) : EB X W (.UnaryOp .Not a pos) (bNot ga) := by
  refine PT.imp (pt_not ha) fun σ H Q h => ?_
  obtain ⟨ρ, S, sl, w, rs, p⟩ := h
  exact ⟨ρ, S, sl, w, rs, PostB.mono (PostB.bindB p) fun k H1 ⟨ρ1, S1, x1, w1, _, p1⟩ => p1 ρ1 H1 Ext.refl w1⟩
theorem r_one {op : BoolOp} (ha : E X W a fa) : E X W (.BoolOp op [a] pos) fa := pe_one ha
def gAnd (g : EX) : Sl → D → Store → Out D := fun sl d S1 => match d with
  | .bl true => g sl S1
  | .bl false => .ok (.bl false) S1
  | _ => .bad
theorem r_and (ha : E X W a fa) (hb : E X W (.BoolOp .And (b :: rest) pos) fb) : E X W (.BoolOp .And (a :: b :: rest) pos) (eAnd fa fb) := by
  refine PE.imp (pe_and ha hb) fun σ H Q h => un_imp (g := gAnd fb) h fun ρ S sl H1 d v w r1 rv p => ?_
  cases d with
  | bl k =>
    rw [Rep] at rv
    refine ⟨k, rv, ?_⟩
    cases k with
    | true => rw [if_pos rfl]; exact ⟨ρ, S, sl, w, r1, p⟩
    | false => rw [if_neg Bool.false_ne_true]; exact post_ok p w (by rw [Rep])
  | _ => exact p.elim
theorem r_if (hc : EB X W c ga) (ha : E X W a fa) (hb : E X W b fb) : E X W (.IfExp c a b pos) (eIf ga fa fb) := by
  refine PE.imp (pe_ifExp hc ha hb) fun σ H Q h => ?_
  obtain ⟨ρ, S, sl, w, rs, p⟩ := h
  refine ⟨ρ, S, sl, w, rs, PostB.mono (PostB.bindE p) fun k H1 ⟨ρ1, S1, x1, w1, _, p1⟩ => ?_⟩
  cases k with
  | true => exact ⟨ρ1, S1, sl, w1, rs.ext x1, p1⟩
  | false => exact ⟨ρ1, S1, sl, w1, rs.ext x1, p1⟩
/-! ### arguments, displays -/
theorem a_nil : EA X W [] aNil := PA.imp pa_nil fun σ H Q ⟨ρ, S, sl, w, rs, p⟩ => p [] ρ H Ext.refl w RepL.nil
theorem args_imp {f : EX} {g : AX} {K : PySem.W.Frag} {mg : Str → Option Value} {σ : L2.St} {H : Hp} {Q : List V → Hp → Prop} (h : trA K mg W (aCons f g) σ H Q) : trE K mg W f σ H fun x H1 => trA K mg W g σ H1 fun xs H2 => Q (x :: xs) H2 := by
  obtain ⟨ρ, S, sl, w, r, p⟩ := h
  refine ⟨ρ, S, sl, w, r, PostE.mono (PostE.bindA p) fun v H1 ⟨ρ1, S1, d, x1, w1, r1, _, p1⟩ => ?_⟩
  refine ⟨ρ1, S1, sl, w1, r.ext x1, PostA.mono (PostA.bindA p1) fun y H2 ⟨ρ2, S2, e, x2, w2, r2, _, p2⟩ => ?_⟩
  exact p2 (v :: y) ρ2 H2 Ext.refl w2 (RepL.cons (r1.ext x2) r2)
theorem a_cons {e : Expr} {es : List Expr} {f : EX} {g : AX} (ha : E X W e f) (hr : EA X W es g) (hs : starEach (e :: es) X.env = (false, eval e X.env) :: starEach es X.env := by rfl) : EA X W (e :: es) (aCons f g) :=
  PA.imp (pa_cons ha hr hs) fun σ H Q h => args_imp h
theorem argsem_imp {f : AX} {sem : SemL} {K : PySem.W.Frag} {mg : Str → Option Value} {σ : L2.St} {H : Hp} {Q : VK} {k : List V → Hp → Prop} (h : trE K mg W (eArgs sem f) σ H Q)
    (hk : ∀ ρ S H1 ds vs, WOk K mg ρ H1 S → RepL K mg ρ H1 ds vs → PostE K mg (fun C d H' => W C d σ H') ρ H1 Q (sem ds S) → k vs H1) : trA K mg W f σ H k := by
  obtain ⟨ρ, S, sl, w, r, p⟩ := h
  exact ⟨ρ, S, sl, w, r, PostA.mono (PostA.bindE p) fun v H1 ⟨ρ1, S1, d, x1, w1, r1, _, p1⟩ => hk ρ1 S1 H1 d v w1 r1 p1⟩
end
/-! ### new things -/
section
variable {K : PySem.W.Frag} {mg : Str → Option Value} {ρ : List Addr} {H : Hp} {S : Store}
/-- a new thing that is no handle's -/
theorem Ext.new' {p : Addr} {o : HO} (hp : H p = none) : Ext ρ H ρ (upd H p o) := ⟨⟨[], by simp⟩, fun a h n => absurd h n, fun a u n h => .inl (by rw [upd_ne (ne_of_none h hp)]; exact h)⟩
theorem WOk.nin (w : WOk K mg ρ H S) {p : Addr} (hp : H p = none) : p ∉ ρ := fun q => w.tr p q hp
theorem MRep.ext {ρ' : List Addr} {H' : Hp} (x : Ext ρ H ρ' H') {a : Addr} {m : MO} (e : H' a = H a) (h : MRep K mg ρ H a m) : MRep K mg ρ' H' a m := by
  cases m with
  | lst ds =>
    obtain ⟨vs, h1, h2⟩ := h
    exact ⟨vs, e.trans h1, h2.ext x⟩
  | dct lk ks ds =>
    obtain ⟨kvs, h1, h2, h3⟩ := h
    refine ⟨kvs, ?_, h2.ext x, h3.ext x⟩
    cases lk with
    | true =>
      rw [if_pos rfl] at h1 ⊢
      rcases h1 with h1 | ⟨o, h1⟩
      · exact .inl (e.trans h1)
      · exact .inr ⟨o, e.trans h1⟩
    | false =>
      rw [if_neg Bool.false_ne_true] at h1 ⊢
      exact e.trans h1
  | ins c ns ds =>
    obtain ⟨C, dx, fs, h0, h1, h2, h3⟩ := h
    exact ⟨C, dx, fs, h0, e.trans h1, h2, h3.ext x⟩
  | tab P q =>
    obtain ⟨hP, ps, h1, h2, h3⟩ := h
    refine ⟨hP, ps, e.trans h1, h2, fun pos cv hc => ?_⟩
    obtain ⟨c, e1, n, e2⟩ := h3 pos cv hc
    exact ⟨c, e1, x.nin n e2, x.kept n e2 (by intros; nofun)⟩
theorem WOk.new' (w : WOk K mg ρ H S) {p : Addr} {o : HO} (hp : H p = none) : WOk K mg ρ (upd H p o) S := by
  have ne : ∀ a ∈ ρ, a ≠ p := fun a ha q => w.nin hp (q ▸ ha)
  refine ⟨w.len, w.nd, fun a ha => by rw [upd_ne (ne a ha)]; exact w.tr a ha, fun n a m e1 e2 => ?_⟩
  have ha : a ∈ ρ := List.mem_of_getElem? e1
  exact MRep.ext (Ext.new' hp) (upd_ne (ne a ha)) (w.ob n a m e1 e2)
/-- a new handle -/
theorem Ext.hand {p : Addr} {o : HO} (hp : H p = none) : Ext ρ H (ρ ++ [p]) (upd H p o) := by
  refine ⟨⟨[p], rfl⟩, fun a h n => ?_, fun a u n h => .inl (by rw [upd_ne (ne_of_none h hp)]; exact h)⟩
  rcases List.mem_append.mp h with h | h
  · exact absurd h n
  · rw [List.mem_singleton.mp h]; exact hp
theorem WOk.hand (w : WOk K mg ρ H S) {p : Addr} {o : HO} {m : MO} (hp : H p = none) (hm : MRep K mg (ρ ++ [p]) (upd H p o) p m) : WOk K mg (ρ ++ [p]) (upd H p o) (S ++ [m]) := by
  have ne : ∀ a ∈ ρ, a ≠ p := fun a ha q => w.nin hp (q ▸ ha)
  refine ⟨by simp [w.len], ?_, fun a ha => ?_, fun n a m' e1 e2 => ?_⟩
  · refine List.nodup_append.mpr ⟨w.nd, by simp, fun a ha b hb => ?_⟩
    rw [List.mem_singleton.mp hb]
    exact ne a ha
  · rcases List.mem_append.mp ha with ha | ha
    · rw [upd_ne (ne a ha)]; exact w.tr a ha
    · rw [List.mem_singleton.mp ha, upd_same]; simp
  · by_cases hn : n < ρ.length
    · rw [List.getElem?_append_left hn] at e1
      rw [List.getElem?_append_left (by rw [← w.len]; exact hn)] at e2
      exact MRep.ext (Ext.hand hp) (upd_ne (ne a (List.mem_of_getElem? e1))) (w.ob n a m' e1 e2)
    · have hl := w.len
      rw [List.getElem?_append_right (by omega)] at e1 e2
      have hz : n - ρ.length = 0 := by
        cases q : n - ρ.length with
        | zero => rfl
        | succ k => rw [q] at e1; simp at e1
      rw [hz] at e1
      have hz2 : n - S.length = 0 := by omega
      rw [hz2] at e2
      simp at e1 e2
      subst e1 e2
      exact hm
/-- what a tuple, a list made from values stands for -/
theorem post_tup {Wp : Value → Option Addr → Hp → Prop} {Q : VK} {ds : List D} {vs : List V} {p : Addr} (h : PostE K mg Wp ρ H Q (.ok (.tup ds) S)) (w : WOk K mg ρ H S) (r : RepL K mg ρ H ds vs) (hp : H p = none) : Q (.ref p) (upd H p (.tup vs)) := by
  refine h (.ref p) ρ _ (Ext.new' hp) (w.new' hp) ?_
  rw [Rep]
  exact ⟨p, vs, rfl, .inl ⟨w.nin hp, upd_same⟩, r.ext (Ext.new' hp)⟩
theorem post_lst {Wp : Value → Option Addr → Hp → Prop} {Q : VK} {ds : List D} {vs : List V} {p : Addr} (h : PostE K mg Wp ρ H Q (.ok (.lst ds) S)) (w : WOk K mg ρ H S) (r : RepL K mg ρ H ds vs) (hp : H p = none) : Q (.ref p) (upd H p (.lst vs)) := by
  refine h (.ref p) ρ _ (Ext.new' hp) (w.new' hp) ?_
  rw [Rep]
  exact ⟨p, vs, rfl, ⟨w.nin hp, upd_same⟩, r.ext (Ext.new' hp)⟩
/-- a list that is a handle's -/
theorem post_lstH {Wp : Value → Option Addr → Hp → Prop} {Q : VK} {ds : List D} {vs : List V} {p : Addr} (h : PostE K mg Wp ρ H Q (.ok (.ptr S.length) (S ++ [.lst ds]))) (w : WOk K mg ρ H S) (r : RepL K mg ρ H ds vs) (hp : H p = none) : Q (.ref p) (upd H p (.lst vs)) := by
  refine h (.ref p) (ρ ++ [p]) _ (Ext.hand hp) (w.hand hp ⟨vs, upd_same, r.ext (Ext.hand hp)⟩) ?_
  rw [Rep]
  exact ⟨p, rfl, by rw [← w.len]; simp⟩
end
/-- as a handle -/
def semTup : SemL := fun ds S => if ds.length ≤ 1000000 then .ok (.tup ds) S else .bad
def semLst : SemL := fun ds S => if ds.length ≤ 1000000 then .ok (.lst ds) S else .bad
def semLstH : SemL := fun ds S => if ds.length ≤ 1000000 then .ok (.ptr S.length) (S ++ [.lst ds]) else .bad
theorem line_of {n : Nat} (h : n ≤ 1000000) : n ≤ sizeLine := by rw [sizeLine_eq]; omega
section
variable {X : Cx} {W : WX} {es : List Expr} {f : AX} {pos : Pos}
theorem r_tup {x1} (h : EA X W es f) : E X W (.Tuple es x1 pos) (eArgs semTup f) := by
  refine PE.imp (pe_tup h) fun σ H Q q => argsem_imp q fun ρ S H1 ds vs w r p => ?_
  unfold semTup at p
  split at p
  · rename_i hl
    exact ⟨by rw [← r.len]; exact line_of hl, fun a ha => post_tup p w r ha⟩
  · exact p.elim
theorem r_lst (h : EA X W es f) : E X W (.List es pos) (eArgs semLst f) := by
  refine PE.imp (pe_lst h) fun σ H Q q => argsem_imp q fun ρ S H1 ds vs w r p => ?_
  unfold semLst at p
  split at p
  · rename_i hl
    exact ⟨by rw [← r.len]; exact line_of hl, fun a ha => post_lst p w r ha⟩
  · exact p.elim
theorem r_lstH (h : EA X W es f) : E X W (.List es pos) (eArgs semLstH f) := by
  refine PE.imp (pe_lst h) fun σ H Q q => argsem_imp q fun ρ S H1 ds vs w r p => ?_
  unfold semLstH at p
  split at p
  · rename_i hl
    exact ⟨by rw [← r.len]; exact line_of hl, fun a ha => post_lstH p w r ha⟩
  · exact p.elim
/-! ### a built-in called by its name -/
theorem r_callB {x : Str} {id : String} {sem : SemL} {p : Pos} {e : Expr} {es : List Expr} (hc : CallD X (.builtin id) sem) (hg : Gl X x) (hm : X.mg x = none) (hv : bootBuiltins x = some (.builtin id)) (ha : EA X W (e :: es) f) (hn : x ≠ "__name__" := by decide) (hdb : (x == ("__debug__" : Str)) = false := by decide)
    (he : starEach (e :: es) X.env = (false, eval e X.env) :: starEach es X.env := by rfl) (hpl : (backTo pos (starEach es X.env)).any (·.1) = false := by rfl) : E X W (.Call (.Name x p) (e :: es) [] pos) (eArgs sem f) := by
  obtain ⟨r, c, g⟩ := hc.go
  exact PE.imp (pe_callB c hg hm hv ha hn hdb he hpl) fun σ H Q q => argsem_imp q fun ρ S H1 ds vs w rr p => g _ ρ H1 S ds vs Q w rr p
theorem r_callT {x : Str} {T : String} {sem : SemL} {p : Pos} {e : Expr} {es : List Expr} (hc : CallD X (.type T) sem) (hg : Gl X x) (hm : X.mg x = none) (hv : bootBuiltins x = some (.type T)) (ha : EA X W (e :: es) f) (hn : x ≠ "__name__" := by decide) (hdb : (x == ("__debug__" : Str)) = false := by decide)
    (he : starEach (e :: es) X.env = (false, eval e X.env) :: starEach es X.env := by rfl) (hpl : (backTo pos (starEach es X.env)).any (·.1) = false := by rfl) : E X W (.Call (.Name x p) (e :: es) [] pos) (eArgs sem f) := by
  obtain ⟨r, c, g⟩ := hc.go
  exact PE.imp (pe_callTy c hg hm hv ha hn hdb he hpl) fun σ H Q q => argsem_imp q fun ρ S H1 ds vs w rr p => g _ ρ H1 S ds vs Q w rr p
end
end Z
/-! Z2: statements, defs and their calls. -/
namespace Z
open PySem PySem.Spec L2
def Out.toS {α : Type} (o : Out α) (sl : Sl) (k : α → Store → SO) : SO := match o with
  | .ok a S => k a S
  | .ex e S => .ex e sl S
  | .bad => .bad
def sNil : SX := fun sl S => .nx sl S
def sBad : SX := fun _ _ => .bad
def sBrk : SX := fun sl S => .bk sl S
def sCnt : SX := fun sl S => .ct sl S
def SO.then (o : SO) (g : SX) : SO := match o with
  | .nx sl S => g sl S
  | r => r
def sSeq (f g : SX) : SX := fun sl S => (f sl S).then g
def sExp (f : EX) : SX := fun sl S => (f sl S).toS sl fun _ S' => .nx sl S'
def sRet (f : EX) : SX := fun sl S => (f sl S).toS sl fun d S' => .rt d S'
def sRetN : SX := fun _ S => .rt .non S
def sIf (c : BX) (f g : SX) : SX := fun sl S => (c sl S).toS sl fun b S' => if b = true then f sl S' else g sl S'
/-- a target -/
abbrev GX := D → Sl → Store → SO
def gSet (i : Nat) : GX := fun d sl S => .nx (sl.set i (some d)) S
abbrev GXs := List D → Sl → Store → SO
def gNilX : GXs := fun ds sl S => match ds with
  | [] => .nx sl S
  | _ => .bad
def gConsX (g : GX) (gs : GXs) : GXs := fun ds sl S => match ds with
  | d :: r => (g d sl S).then (gs r)
  | [] => .bad
def asL (S : Store) : D → Option (List D)
  | .lst ds => some ds
  | .ptr n => match S[n]? with
    | some (.lst ds) => some ds
    | _ => none
  | _ => none
def gTupX (gs : GXs) : GX := fun d sl S => match d with
  | .tup ds => gs ds sl S
  | _ => .bad
def sAsg (f : EX) (g : GX) : SX := fun sl S => (f sl S).toS sl fun d S' => g d sl S'
/-- a, b = x, y -/
def sPar (i j : Nat) (f : AX) : SX := fun sl S => (f sl S).toS sl fun ds S' => match ds with
  | [d, e] => .nx ((sl.set i (some d)).set j (some e)) S'
  | _ => .bad
/-- for over items; G: what must stay as it is at each turn -/
noncomputable def forL (G : Store → Prop) (g : GX) (body : SX) : List D → SX
  | [], sl, S => open Classical in if G S then .nx sl S else .bad
  | x :: xs, sl, S => open Classical in if G S then (match g x sl S with
    | .nx sl1 S1 => (match body sl1 S1 with
      | .nx sl2 S2 => forL G g body xs sl2 S2
      | .ct sl2 S2 => forL G g body xs sl2 S2
      | .bk sl2 S2 => .nx sl2 S2
      | r => r)
    | _ => .bad) else .bad
/-- what is walked: its items, what must stay -/
abbrev IX := Sl → Store → Out (List D × (Store → Prop))
noncomputable def sFor (it : IX) (g : GX) (body : SX) : SX := fun sl S => (it sl S).toS sl fun p S' => forL p.2 g body p.1 sl S'
section
variable {K : PySem.W.Frag} {mg : Str → Option Value} {ρ : List Addr} {H : Hp} {S : Store}
theorem RSt.set {σ : L2.St} {sl : Sl} (r : RSt K mg ρ H σ sl) {d : D} {v : V} (h : Rep K mg ρ H d v) (i : Nat) : RSt K mg ρ H (σ.set i (some v)) (sl.set i (some d)) := by
  refine ⟨by simp [r.len], fun j e q => ?_⟩
  by_cases hj : j = i
  · subst hj
    by_cases hl : j < sl.length
    · rw [List.getElem?_set_self hl] at q
      cases q
      exact ⟨v, List.getElem?_set_self (by rw [r.len]; exact hl), h⟩
    · rw [List.getElem?_eq_none (by simpa using hl)] at q; cases q
  · rw [List.getElem?_set_ne (Ne.symm hj)] at q ⊢
    exact r.at_ j e q
theorem PostS.mono {W : WX} {Da Db : Ends} {o : SO} (h : PostS K mg W ρ H Da o) (k1 : ∀ σ H, Da.nx σ H → Db.nx σ H) (k2 : ∀ v H, Da.rt v H → Db.rt v H) (k3 : ∀ σ H, Da.bk σ H → Db.bk σ H) (k4 : ∀ σ H, Da.ct σ H → Db.ct σ H) : PostS K mg W ρ H Db o := by
  cases o with
  | nx sl S => exact fun σ ρ2 H2 y w r => k1 _ _ (h σ ρ2 H2 y w r)
  | bk sl S => exact fun σ ρ2 H2 y w r => k3 _ _ (h σ ρ2 H2 y w r)
  | ct sl S => exact fun σ ρ2 H2 y w r => k4 _ _ (h σ ρ2 H2 y w r)
  | rt d S => exact fun v ρ2 H2 y w r => k2 _ _ (h v ρ2 H2 y w r)
  | ex e sl S => exact h
  | bad => exact h
theorem PostS.seq {W : WX} {Dd : Ends} {o : SO} {g : SX} (h : PostS K mg W ρ H Dd (o.then g)) : PostS K mg W ρ H { Dd with nx := fun σ H' => trS K mg W g Dd σ H' } o := by
  cases o with
  | nx sl S => exact fun σ ρ2 H2 y w r => ⟨ρ2, S, sl, w, r, PostS.from y h⟩
  | bk sl S => exact h
  | ct sl S => exact h
  | rt d S => exact h
  | ex e sl S => exact h
  | bad => exact h
/-- an expression within a statement -/
theorem PostS.ofE {W : WX} {Dd : Ends} {σ : L2.St} {sl : Sl} {o : Out D} {k : D → Store → SO} (rs : RSt K mg ρ H σ sl) (h : PostS K mg W ρ H Dd (o.toS sl k)) :
    PostE K mg (fun C d H' => W C d σ H') ρ H (fun v H1 => ∃ ρ1 S1 d, WOk K mg ρ1 H1 S1 ∧ RSt K mg ρ1 H1 σ sl ∧ Rep K mg ρ1 H1 d v ∧ PostS K mg W ρ1 H1 Dd (k d S1)) o := by
  cases o with
  | ok d S => exact fun v ρ2 H2 y w r => ⟨ρ2, S, d, w, rs.ext y, r, PostS.from y h⟩
  | ex e S => exact fun C dd ρ2 H2 y w r => h C dd σ ρ2 H2 y w (rs.ext y) r
  | bad => exact h
theorem PostS.ofB {W : WX} {Dd : Ends} {σ : L2.St} {sl : Sl} {o : Out Bool} {k : Bool → Store → SO} (rs : RSt K mg ρ H σ sl) (h : PostS K mg W ρ H Dd (o.toS sl k)) :
    PostB K mg (fun C d H' => W C d σ H') ρ H (fun b H1 => ∃ ρ1 S1, WOk K mg ρ1 H1 S1 ∧ RSt K mg ρ1 H1 σ sl ∧ PostS K mg W ρ1 H1 Dd (k b S1)) o := by
  cases o with
  | ok d S => exact fun ρ2 H2 y w => ⟨ρ2, S, w, rs.ext y, PostS.from y h⟩
  | ex e S => exact fun C dd ρ2 H2 y w r => h C dd σ ρ2 H2 y w (rs.ext y) r
  | bad => exact h
theorem post_nx {W : WX} {Dd : Ends} {σ : L2.St} {sl : Sl} (h : PostS K mg W ρ H Dd (.nx sl S)) (w : WOk K mg ρ H S) (r : RSt K mg ρ H σ sl) : Dd.nx σ H := h σ ρ H Ext.refl w r
end
section
variable {X : Cx} {W : WX} {st : Stmt} {rest : List Stmt} {f g : SX} {e : Expr} {fe : EX} {pos : Pos}
theorem s_nil : ESs X W [] sNil := PSs.imp pss_nil fun D σ H ⟨ρ, S, sl, w, rs, p⟩ => post_nx p w rs
theorem s_one (h : ES X W st f) : ESs X W [st] f := pss_one h
theorem s_cons (h : ES X W st f) (hr : ESs X W rest g) : ESs X W (st :: rest) (sSeq f g) :=
  PSs.imp (pss_cons h hr) fun D σ H ⟨ρ, S, sl, w, rs, p⟩ => ⟨ρ, S, sl, w, rs, PostS.seq p⟩
theorem s_ret (he : E X W e fe) : ES X W (.Return (some e) pos) (sRet fe) :=
  PS.imp (ps_ret he) fun D σ H ⟨ρ, S, sl, w, rs, p⟩ => ⟨ρ, S, sl, w, rs, PostE.mono (PostS.ofE rs p) fun v H1 ⟨ρ1, S1, d, w1, r1, rv, p1⟩ => p1 v ρ1 H1 Ext.refl w1 rv⟩
theorem s_if {c : Expr} {ga : BX} {a b : List Stmt} (hc : EB X W c ga) (ha : ESs X W a f) (hb : ESs X W b g) : ES X W (.If c a b pos) (sIf ga f g) := by
  refine PS.imp (ps_if hc ha hb) fun D σ H ⟨ρ, S, sl, w, rs, p⟩ => ⟨ρ, S, sl, w, rs, PostB.mono (PostS.ofB rs p) fun k H1 ⟨ρ1, S1, w1, r1, p1⟩ => ?_⟩
  cases k with
  | true => exact ⟨ρ1, S1, sl, w1, r1, p1⟩
  | false => exact ⟨ρ1, S1, sl, w1, r1, p1⟩
/-! ### targets -/
def trG (K : PySem.W.Frag) (mg : Str → Option Value) (W : WX) (g : GX) : TG := fun v σ H Q => ∃ ρ S sl d, WOk K mg ρ H S ∧ RSt K mg ρ H σ sl ∧ Rep K mg ρ H d v ∧ PostS K mg W ρ H ⟨Q, fun _ _ => False, fun _ _ => False, fun _ _ => False⟩ (g d sl S)
def trGs (K : PySem.W.Frag) (mg : Str → Option Value) (W : WX) (g : GXs) : TGs := fun v σ H Q => ∃ ρ S sl d, WOk K mg ρ H S ∧ RSt K mg ρ H σ sl ∧ RepL K mg ρ H d v ∧ PostS K mg W ρ H ⟨Q, fun _ _ => False, fun _ _ => False, fun _ _ => False⟩ (g d sl S)
def EG (X : Cx) (W : WX) (tg : Expr) (g : GX) : Prop := PG X tg (trG X.K X.mg W g)
def EGs (X : Cx) (W : WX) (tg : List Expr) (g : GXs) : Prop := PGs X tg (trGs X.K X.mg W g)
theorem PG.imp {tg : Expr} {t t' : TG} (h : PG X tg t) (k : ∀ v σ H Q, t' v σ H Q → t v σ H Q) : PG X tg t' := ⟨fun pins s σ H v u Q I r q => h.run pins s σ H v u Q I r (k v σ H Q q)⟩
theorem PGs.imp {tg : List Expr} {t t' : TGs} (h : PGs X tg t) (k : ∀ v σ H Q, t' v σ H Q → t v σ H Q) : PGs X tg t' := ⟨fun pins s σ H v u Q I r q => h.run pins s σ H v u Q I r (k v σ H Q q)⟩
theorem g_name {i : Nat} {x : Str} (hN : X.N.Nodup) (hi : X.N[i]? = some x := by rfl) (hx : Loc X.env.scope x := by first | exact Or.inl rfl | exact Or.inr rfl) (hf : X.fn x = true ∨ X.env.scope.names.lookup x = some .local := by first | exact .inl rfl | exact .inr rfl) : EG X W (.Name x pos) (gSet i) :=
  PG.imp (pg_name hN hi hx hf) fun v σ H Q ⟨ρ, S, sl, d, w, rs, rv, p⟩ => p _ ρ H Ext.refl w (rs.set rv i)
theorem gs_nil : EGs X W [] gNilX := PGs.imp pgs_nil fun v σ H Q ⟨ρ, S, sl, ds, w, rs, rv, p⟩ => by
  cases ds with
  | nil =>
    rw [RepL] at rv
    exact ⟨rv, p _ ρ H Ext.refl w rs⟩
  | cons d r => exact p.elim
theorem gs_cons {t : Expr} {ts : List Expr} {g : GX} {gs : GXs} (h : EG X W t g) (hr : EGs X W ts gs) (hs : (assignEach (t :: ts) X.env).map (·.2) = assign t X.env :: (assignEach ts X.env).map (·.2) := by rfl) : EGs X W (t :: ts) (gConsX g gs) :=
  PGs.imp (pgs_cons h hr hs) fun v σ H Q ⟨ρ, S, sl, ds, w, rs, rv, p⟩ => by
    cases ds with
    | nil => exact p.elim
    | cons d r =>
      rw [RepL] at rv
      obtain ⟨v1, vr, e, h1, h2⟩ := rv
      subst e
      refine ⟨v1, vr, rfl, ρ, S, sl, d, w, rs, h1, ?_⟩
      have p : PostS X.K X.mg W ρ H ⟨Q, fun _ _ => False, fun _ _ => False, fun _ _ => False⟩ ((g d sl S).then (gs r)) := p
      cases q : g d sl S with
      | nx sl1 S1 =>
        rw [q] at p
        exact fun σ1 ρ1 H1 x1 w1 r1 => ⟨ρ1, S1, sl1, r, w1, r1, h2.ext x1, PostS.from x1 p⟩
      | bk sl1 S1 => rw [q] at p; exact p
      | ct sl1 S1 => rw [q] at p; exact p
      | rt d1 S1 => rw [q] at p; exact p
      | ex e1 sl1 S1 => rw [q] at p; exact p
      | bad => rw [q] at p; exact p
theorem g_tup {es : List Expr} {k : Nat} {gs : GXs} {n : Nat} (hc : X.calm = true) (h : EGs X W es gs) (hl : ∀ ds sl S, gs ds sl S ≠ .bad → ds.length = n) (hn : (assignEach es X.env).length = n := by rfl) (hst : (assignEach es X.env).findIdx? (·.1) = none := by rfl) : EG X W (.Tuple es k pos) (gTupX gs) :=
  PG.imp (pg_tup hc h hn hst) fun v σ H Q ⟨ρ, S, sl, d, w, rs, rv, p⟩ => by
    cases d with
    | tup ds =>
      rw [Rep] at rv
      obtain ⟨a, vs, e, t, r⟩ := rv
      have p : PostS X.K X.mg W ρ H ⟨Q, fun _ _ => False, fun _ _ => False, fun _ _ => False⟩ (gs ds sl S) := p
      exact ⟨a, vs, e, t.sq, by rw [← r.len]; exact hl ds sl S (fun q => by rw [q] at p; exact p), ρ, S, sl, ds, w, rs, r, p⟩
    | _ => exact p.elim
theorem len_nil (ds : List D) (sl : Sl) (S : Store) (h : gNilX ds sl S ≠ .bad) : ds.length = 0 := by
  cases ds with
  | nil => rfl
  | cons _ _ => exact absurd rfl h
theorem len_cons {g : GX} {gs : GXs} {n : Nat} (hr : ∀ ds sl S, gs ds sl S ≠ .bad → ds.length = n) (hg : ∀ d sl S, (∃ sl' S', g d sl S = .nx sl' S') ∨ g d sl S = .bad) (ds : List D) (sl : Sl) (S : Store) (h : gConsX g gs ds sl S ≠ .bad) : ds.length = n + 1 := by
  cases ds with
  | nil => exact absurd rfl h
  | cons d r =>
    rcases hg d sl S with ⟨sl', S', e⟩ | e
    · have : gConsX g gs (d :: r) sl S = gs r sl' S' := by show (g d sl S).then (gs r) = _; rw [e]; rfl
      rw [this] at h
      simp [hr r sl' S' h]
    · exact absurd (show gConsX g gs (d :: r) sl S = .bad by show (g d sl S).then (gs r) = _; rw [e]; rfl) h
theorem nx_set (i : Nat) (d : D) (sl : Sl) (S : Store) : (∃ sl' S', gSet i d sl S = .nx sl' S') ∨ gSet i d sl S = .bad := .inl ⟨_, _, rfl⟩
theorem s_asg {tg : Expr} {g : GX} (he : E X W e fe) (hg : EG X W tg g) (hb : ∀ d sl S, (∃ sl' S', g d sl S = .nx sl' S') ∨ g d sl S = .bad) (hs : swapsWithSole [tg] e pos.line X.env = pure false := by rfl) (hw : swappedStores [tg] e X.env = pure none := by rfl)
    (h1 : (assignEach [tg] X.env).map (·.2) = [assign tg X.env] := by rfl) : ES X W (.Assign [tg] e pos) (sAsg fe g) :=
  PS.imp (ps_asg he hg hs hw h1) fun D σ H ⟨ρ, S, sl, w, rs, p⟩ => ⟨ρ, S, sl, w, rs, PostE.mono (PostS.ofE rs p) fun v H1 ⟨ρ1, S1, d, w1, r1, rv, p1⟩ => ⟨ρ1, S1, sl, d, w1, r1, rv, by
    rcases hb d sl S1 with ⟨sl', S', q⟩ | q
    · rw [q] at p1 ⊢; exact p1
    · rw [q] at p1; exact p1.elim⟩⟩
theorem s_set {i : Nat} {x : Str} {pos' : Pos} (hN : X.N.Nodup) (he : E X W e fe) (hi : X.N[i]? = some x := by rfl) (hx : Loc X.env.scope x := by first | exact Or.inl rfl | exact Or.inr rfl) (hs : swapsWith e (some (.Name x pos')) pos.line X.env = pure false := by rfl)
    (hf : X.fn x = true ∨ X.env.scope.names.lookup x = some .local := by first | exact .inl rfl | exact .inr rfl) : ES X W (.Assign [.Name x pos'] e pos) (sAsg fe (gSet i)) :=
  PS.imp (ps_set hN hi hx he hs hf) fun D σ H ⟨ρ, S, sl, w, rs, p⟩ => ⟨ρ, S, sl, w, rs, PostE.mono (PostS.ofE rs p) fun v H1 ⟨ρ1, S1, d, w1, r1, rv, p1⟩ => p1 _ ρ1 H1 Ext.refl w1 (r1.set rv i)⟩
/-! ### while -/
end
/-! ### what is walked -/
/-- J walks over data ds from the base heap on, while G holds of the store -/
structure IWalk (K : PySem.W.Frag) (mg : Str → Option Value) (J : It) (ds : List D) (G : Store → Prop) (ρ0 : List Addr) (H0 : Hp) : Prop where
  go : ∀ (i : Nat) ρ H S, i < ds.length → Ext ρ0 H0 ρ H → WOk K mg ρ H S → G S → J.go i H
  stop : ∀ ρ H S, Ext ρ0 H0 ρ H → WOk K mg ρ H S → G S → J.stop ds.length H
  yld : ∀ (i : Nat) ρ H S x H', i < ds.length → Ext ρ0 H0 ρ H → WOk K mg ρ H S → G S → J.yld i H x H' → ∃ d, ds[i]? = some d ∧ Ext ρ H ρ H' ∧ WOk K mg ρ H' S ∧ Rep K mg ρ H' d x
def PostI (K : PySem.W.Frag) (mg : Str → Option Value) (W : Value → Option Addr → Hp → Prop) (ρ : List Addr) (H : Hp) (R : It → Hp → Prop) : Out (List D × (Store → Prop)) → Prop
  | .ok p S' => ∀ ρ' H' J, Ext ρ H ρ' H' → WOk K mg ρ' H' S' → IWalk K mg J p.1 p.2 ρ' H' → R J H'
  | .ex e S' => ∀ C dd ρ' H', Ext ρ H ρ' H' → WOk K mg ρ' H' S' → ExRep K mg ρ' H' e C dd → W C dd H'
  | .bad => False
def trI (K : PySem.W.Frag) (mg : Str → Option Value) (W : WX) (it : IX) : TI := fun σ H R => ∃ ρ S sl, WOk K mg ρ H S ∧ RSt K mg ρ H σ sl ∧ PostI K mg (fun C d H' => W C d σ H') ρ H R (it sl S)
def EI (X : Cx) (W : WX) (tg it : Expr) (f : IX) : Prop := PI X tg it (trI X.K X.mg W f)
theorem PI.imp {X : Cx} {tg e : Expr} {t t' : TI} (h : PI X tg e t) (k : ∀ σ H R, t' σ H R → t σ H R) : PI X tg e t' := ⟨fun pins s σ H R I q => h.run pins s σ H R I (k σ H R q)⟩
section
variable {X : Cx} {W : WX} {f : SX} {pos : Pos}
theorem s_for {tg iter : Expr} {body : List Stmt} {it : IX} {g : GX} (hp : PassesOwn (model X.prog X.w) X.A X.env X.xe) (hc : X.calm = true) (hi : EI X W tg iter it) (hg : EG X W tg g) (hb : ESs X W body f)
    (hs : ∀ x, foldedSetIterable iter X.env x = pure x := by intro _; rfl) : ES X W (.For tg iter body [] pos) (sFor it g f) := by
  refine PS.imp (ps_for hp hc hi hg hb hs) fun D σ H ⟨ρ, S, sl, w, rs, p⟩ => ?_
  have p : PostS X.K X.mg W ρ H D ((it sl S).toS sl fun p S' => forL p.2 g f p.1 sl S') := p
  refine ⟨ρ, S, sl, w, rs, ?_⟩
  cases q : it sl S with
  | bad => rw [q] at p; exact p
  | ex e S1 => rw [q] at p; exact fun C dd ρ2 H2 y w r => p C dd σ ρ2 H2 y w (rs.ext y) r
  | ok pr S1 =>
    rw [q] at p
    intro ρ1 H1 J x1 w1 iw
    obtain ⟨ds, G⟩ := pr
    have p1 : PostS X.K X.mg W ρ1 H1 D (forL G g f ds sl S1) := PostS.from x1 p
    refine ⟨fun i m σ' H' => i + m = ds.length ∧ ∃ ρ' S' sl', Ext ρ1 H1 ρ' H' ∧ WOk X.K X.mg ρ' H' S' ∧ RSt X.K X.mg ρ' H' σ' sl' ∧ PostS X.K X.mg W ρ' H' D (forL G g f (ds.drop i) sl' S'),
      ⟨ds.length, by simp, ρ1, S1, sl, Ext.refl, w1, rs.ext x1, by simpa using p1⟩, ?_⟩
    rintro i m σ2 H2 ⟨hm, ρ2, S2, sl2, x2, w2, r2, p2⟩
    cases m with
    | zero =>
      have hi : i = ds.length := by omega
      subst hi
      rw [List.drop_length] at p2
      have p2 : PostS X.K X.mg W ρ2 H2 D (open Classical in if G S2 then .nx sl2 S2 else .bad) := p2
      by_cases hG : G S2
      · rw [if_pos hG] at p2
        exact .inl ⟨iw.stop ρ2 H2 S2 x2 w2 hG, post_nx p2 w2 r2⟩
      · rw [if_neg hG] at p2; exact p2.elim
    | succ m =>
      have hlt : i < ds.length := by omega
      have hd : ds.drop i = ds[i] :: ds.drop (i + 1) := (List.getElem_cons_drop hlt).symm
      rw [hd] at p2
      have p2 : PostS X.K X.mg W ρ2 H2 D (open Classical in if G S2 then (match g ds[i] sl2 S2 with
        | .nx sl1 S1 => (match f sl1 S1 with
          | .nx sl2 S2 => forL G g f (ds.drop (i + 1)) sl2 S2
          | .ct sl2 S2 => forL G g f (ds.drop (i + 1)) sl2 S2
          | .bk sl2 S2 => .nx sl2 S2
          | r => r)
        | _ => .bad) else .bad) := p2
      by_cases hG : G S2
      · rw [if_pos hG] at p2
        refine .inr ⟨iw.go i ρ2 H2 S2 hlt x2 w2 hG, fun σ' H' => ∃ ρ' S' sl', Ext ρ1 H1 ρ' H' ∧ WOk X.K X.mg ρ' H' S' ∧ RSt X.K X.mg ρ' H' σ' sl' ∧ PostS X.K X.mg W ρ' H' D (forL G g f (ds.drop (i + 1)) sl' S'), fun σ' H' n => ⟨m, Nat.lt_succ_self m, by omega, n⟩, ?_⟩
        intro x H3 y
        obtain ⟨d, e, x3, w3, r3⟩ := iw.yld i ρ2 H2 S2 x H3 hlt x2 w2 hG y
        have ed : d = ds[i] := by rw [List.getElem?_eq_getElem hlt] at e; exact (Option.some.inj e).symm
        subst ed
        refine ⟨ρ2, S2, sl2, ds[i], w3, r2.ext x3, r3, ?_⟩
        cases q1 : g ds[i] sl2 S2 with
        | nx sl4 S4 =>
          rw [q1] at p2
          intro σ4 ρ4 H4 x4 w4 r4
          refine ⟨ρ4, S4, sl4, w4, r4, ?_⟩
          have p4 := PostS.from (x3.trans x4) p2
          have xx := x2.trans (x3.trans x4)
          cases q2 : f sl4 S4 with
          | nx sl5 S5 => simp only [q2] at p4; exact fun σ5 ρ5 H5 y5 w5 r5 => ⟨ρ5, S5, sl5, xx.trans y5, w5, r5, PostS.from y5 p4⟩
          | ct sl5 S5 => simp only [q2] at p4; exact fun σ5 ρ5 H5 y5 w5 r5 => ⟨ρ5, S5, sl5, xx.trans y5, w5, r5, PostS.from y5 p4⟩
          | bk sl5 S5 => simp only [q2] at p4; exact p4
          | rt d5 S5 => simp only [q2] at p4; exact p4
          | ex e5 sl5 S5 => simp only [q2] at p4; exact p4
          | bad => simp only [q2] at p4; exact p4
        | bk sl4 S4 => rw [q1] at p2; exact p2.elim
        | ct sl4 S4 => rw [q1] at p2; exact p2.elim
        | rt d4 S4 => rw [q1] at p2; exact p2.elim
        | ex e4 sl4 S4 => rw [q1] at p2; exact p2.elim
        | bad => rw [q1] at p2; exact p2.elim
      · rw [if_neg hG] at p2; exact p2.elim
end
end Z
/-! Z3: the promise of a def by its function on data; calls, methods, properties, new objects. -/
namespace Z
open PySem PySem.Spec L2
/-! ### handles that end: made plain -/
mutual
def frzD (g : Nat → Option D) : D → Option D
  | .tup xs => (frzL g xs).map .tup
  | .lst xs => (frzL g xs).map .lst
  | .dct ks vs => match frzL g ks, frzL g vs with
    | some a, some b => some (.dct a b)
    | _, _ => none
  | .ins c ns vs => (frzL g vs).map (.ins c ns)
  | .ptr n => g n
  | .non => some .non
  | .bl b => some (.bl b)
  | .int i => some (.int i)
  | .str s => some (.str s)
  | .ty n => some (.ty n)
  | .cls c => some (.cls c)
  | .scr xs => some (.scr xs)
  | .exc c ns vs => (frzL g vs).map (.exc c ns)
  | .lam T clo => some (.lam T clo)
  | .lamc T caps => (frzL g caps).map (.lamc T)
def frzL (g : Nat → Option D) : List D → Option (List D)
  | [] => some []
  | d :: ds => match frzD g d, frzL g ds with
    | some a, some b => some (a :: b)
    | _, _ => none
end
def frzP (S : Store) (k : Nat) : Nat → Nat → Option D
  | 0, n => if n < k then some (.ptr n) else none
  | f + 1, n => if n < k then some (.ptr n) else match S[n]? with
    | some (.lst ds) => (frzL (frzP S k f) ds).map .lst
    | some (.dct false ks vs) => match frzL (frzP S k f) ks, frzL (frzP S k f) vs with
      | some a, some b => some (.dct a b)
      | _, _ => none
    | some (.ins c ns vs) => (frzL (frzP S k f) vs).map (.ins c ns)
    | _ => none
mutual
/-- every handle in it is below k -/
def under (k : Nat) : D → Bool
  | .tup xs => underL k xs
  | .lst xs => underL k xs
  | .dct ks vs => underL k ks && underL k vs
  | .ins _ _ vs => underL k vs
  | .ptr n => decide (n < k)
  | .non => true
  | .bl _ => true
  | .int _ => true
  | .str _ => true
  | .ty _ => true
  | .cls _ => true
  | .scr _ => true
  | .exc _ _ vs => underL k vs
  | .lam _ _ => true
  | .lamc _ vs => underL k vs
def underL (k : Nat) : List D → Bool
  | [] => true
  | d :: ds => under k d && underL k ds
end
def underM (k : Nat) : MO → Bool
  | .lst xs => underL k xs
  | .dct _ ks vs => underL k ks && underL k vs
  | .ins _ _ vs => underL k vs
  | .tab _ _ => true
/-- what stood is as it was, or speaks of what stood -/
def Closed (S S' : Store) : Prop := ∀ (i : Nat) (m : MO), i < S.length → S'[i]? = some m → S[i]? = some m ∨ underM S.length m = true
noncomputable def fin (S : Store) : Out D → Out D
  | .ok d S' => open Classical in if Closed S S' then (match frzD (frzP S' S.length 6) d with
    | some d' => .ok d' (S'.take S.length)
    | none => .bad) else .bad
  | .ex d S' => open Classical in if Closed S S' then (match frzD (frzP S' S.length 6) d with
    | some d' => .ex d' (S'.take S.length)
    | none => .bad) else .bad
  | .bad => .bad
section
variable {K : PySem.W.Frag} {mg : Str → Option Value} {ρ ρ' : List Addr} {H : Hp} {S S' : Store}
theorem LamAt.sub (hs : ∀ a, a ∉ ρ' → a ∉ ρ) {f : Addr} {T : LamText} {clo : List (Str × Addr)} (h : LamAt ρ' H f T clo) : LamAt ρ H f T clo := by
  obtain ⟨n, hκ, pm, doc, dV, ctv, c', h1, nc, h2, h3⟩ := h
  refine ⟨hs _ n, hκ, pm, doc, dV, ctv, c', h1, hs _ nc, h2, ?_⟩
  rcases h3 with h | ⟨n, t, e, nt, ht⟩
  · exact .inl h
  · exact .inr ⟨n, t, e, hs _ nt, ht⟩
theorem CellsAt.sub (hs : ∀ a, a ∉ ρ' → a ∉ ρ) {clo : List (Str × Addr)} : ∀ {ns : List Str} {vs : List V}, CellsAt ρ' H clo ns vs → CellsAt ρ H clo ns vs
  | [], _, h => h
  | n :: ns, _, ⟨v, r, c, o, u, e, h1, n1, h2, h3, h4, hd, h5⟩ => ⟨v, r, c, o, u, e, h1, hs _ n1, h2, h3, h4, hd, CellsAt.sub hs h5⟩
mutual
theorem frzD_rep {g : Nat → Option D} (hg : ∀ (n : Nat) d' a, g n = some d' → ρ'[n]? = some a → Rep K mg ρ H d' (.ref a)) (hs : ∀ a, a ∉ ρ' → a ∉ ρ) : ∀ (d d' : D) (v : V), frzD g d = some d' → Rep K mg ρ' H d v → Rep K mg ρ H d' v
  | .non, d', v, e, h => by cases e; rw [Rep] at h ⊢; exact h
  | .bl b, d', v, e, h => by cases e; rw [Rep] at h ⊢; exact h
  | .int b, d', v, e, h => by cases e; rw [Rep] at h ⊢; exact h
  | .str b, d', v, e, h => by cases e; rw [Rep] at h ⊢; exact h
  | .ty b, d', v, e, h => by cases e; rw [Rep] at h ⊢; exact h
  | .cls b, d', v, e, h => by cases e; rw [Rep] at h ⊢; exact h
  | .tup xs, d', v, e, h => by
    rw [frzD] at e
    obtain ⟨ys, e1, e2⟩ := Option.map_eq_some_iff.mp e
    subst e2
    rw [Rep] at h ⊢
    obtain ⟨a, vs, e3, t, r⟩ := h
    refine ⟨a, vs, e3, ?_, frzL_rep hg hs xs ys vs e1 r⟩
    rcases t with ⟨n, t⟩ | t
    · exact .inl ⟨hs a n, t⟩
    · exact .inr t
  | .lst xs, d', v, e, h => by
    rw [frzD] at e
    obtain ⟨ys, e1, e2⟩ := Option.map_eq_some_iff.mp e
    subst e2
    rw [Rep] at h ⊢
    obtain ⟨a, vs, e3, t, r⟩ := h
    exact ⟨a, vs, e3, ⟨hs a t.1, t.2⟩, frzL_rep hg hs xs ys vs e1 r⟩
  | .scr xs, d', v, e, h => by
    cases e
    rw [Rep] at h ⊢
    obtain ⟨a, e3, t⟩ := h
    refine ⟨a, e3, ?_⟩
    rcases t with ⟨n, t⟩ | t
    · exact .inl ⟨hs a n, t⟩
    · exact .inr t
  | .dct ks ds, d', v, e, h => by
    rw [frzD] at e
    split at e
    · rename_i a b ea eb
      cases e
      rw [Rep] at h ⊢
      obtain ⟨p, kv, vs, e3, ⟨n, t⟩, r1, r2⟩ := h
      exact ⟨p, kv, vs, e3, ⟨hs p n, t⟩, frzL_rep hg hs ks a kv ea r1, frzL_rep hg hs ds b vs eb r2⟩
    · cases e
  | .ins c ns ds, d', v, e, h => by
    rw [frzD] at e
    obtain ⟨ys, e1, e2⟩ := Option.map_eq_some_iff.mp e
    subst e2
    rw [Rep] at h ⊢
    obtain ⟨a, C, dx, fs, e3, n, hm, ha, hn, r⟩ := h
    exact ⟨a, C, dx, fs, e3, hs a n, hm, ha, hn, frzL_rep hg hs ds ys _ e1 r⟩
  | .ptr n, d', v, e, h => by
    rw [frzD] at e
    rw [Rep] at h
    obtain ⟨a, e3, q⟩ := h
    subst e3
    exact hg n d' a e q
  | .exc c ns ds, d', v, e, h => by
    rw [frzD] at e
    obtain ⟨ys, e1, e2⟩ := Option.map_eq_some_iff.mp e
    subst e2
    rw [Rep] at h ⊢
    obtain ⟨a, C, dx, fs, e3, n, nd, hm, ha, hd, hn, r⟩ := h
    exact ⟨a, C, dx, fs, e3, hs a n, hs dx nd, hm, ha, hd, hn, frzL_rep hg hs ds ys _ e1 r⟩
  | .lam T clo, d', v, e, h => by
    cases e
    rw [Rep] at h ⊢
    obtain ⟨f, e, h⟩ := h
    exact ⟨f, e, h.sub hs⟩
  | .lamc T caps, d', v, e, h => by
    rw [frzD] at e
    obtain ⟨ys, e1, e2⟩ := Option.map_eq_some_iff.mp e
    subst e2
    rw [Rep] at h ⊢
    obtain ⟨f, clo, vs, e3, h1, h2, r⟩ := h
    exact ⟨f, clo, vs, e3, h1.sub hs, h2.sub hs, frzL_rep hg hs caps ys _ e1 r⟩
theorem frzL_rep {g : Nat → Option D} (hg : ∀ (n : Nat) d' a, g n = some d' → ρ'[n]? = some a → Rep K mg ρ H d' (.ref a)) (hs : ∀ a, a ∉ ρ' → a ∉ ρ) : ∀ (ds ds' : List D) (vs : List V), frzL g ds = some ds' → RepL K mg ρ' H ds vs → RepL K mg ρ H ds' vs
  | [], ds', vs, e, h => by
    rw [frzL] at e; cases e
    rw [RepL] at h ⊢; exact h
  | d :: ds, ds', vs, e, h => by
    rw [frzL] at e
    split at e
    · rename_i a b ea eb
      cases e
      rw [RepL] at h ⊢
      obtain ⟨v, r, e3, h1, h2⟩ := h
      exact ⟨v, r, e3, frzD_rep hg hs d a v ea h1, frzL_rep hg hs ds b r eb h2⟩
    · cases e
end
mutual
theorem frz_under {k : Nat} {g : Nat → Option D} (hg : ∀ n, n < k → g n = some (.ptr n)) : ∀ d : D, under k d = true → frzD g d = some d
  | .non, _ => rfl
  | .bl _, _ => rfl
  | .int _, _ => rfl
  | .str _, _ => rfl
  | .ty _, _ => rfl
  | .cls _, _ => rfl
  | .scr _, _ => rfl
  | .tup xs, h => by rw [under] at h; rw [frzD, frz_underL hg xs h]; rfl
  | .lst xs, h => by rw [under] at h; rw [frzD, frz_underL hg xs h]; rfl
  | .dct ks vs, h => by
    rw [under, Bool.and_eq_true] at h
    rw [frzD, frz_underL hg ks h.1, frz_underL hg vs h.2]
  | .ins c ns vs, h => by rw [under] at h; rw [frzD, frz_underL hg vs h]; rfl
  | .ptr n, h => by rw [under] at h; rw [frzD]; exact hg n (of_decide_eq_true h)
  | .exc c ns vs, h => by rw [under] at h; rw [frzD, frz_underL hg vs h]; rfl
  | .lam _ _, _ => rfl
  | .lamc T vs, h => by rw [under] at h; rw [frzD, frz_underL hg vs h]; rfl
theorem frz_underL {k : Nat} {g : Nat → Option D} (hg : ∀ n, n < k → g n = some (.ptr n)) : ∀ ds : List D, underL k ds = true → frzL g ds = some ds
  | [], _ => rfl
  | d :: ds, h => by
    rw [underL, Bool.and_eq_true] at h
    rw [frzL, frz_under hg d h.1, frz_underL hg ds h.2]
end
theorem frzP_lt {k f n : Nat} (h : n < k) : frzP S k f n = some (.ptr n) := by
  cases f with
  | zero => rw [frzP, if_pos h]
  | succ f => rw [frzP, if_pos h]
mutual
theorem Rep.under_ : ∀ (d : D) (v : V), Rep K mg ρ H d v → under ρ.length d = true
  | .non, _, _ => rfl
  | .bl _, _, _ => rfl
  | .int _, _, _ => rfl
  | .str _, _, _ => rfl
  | .ty _, _, _ => rfl
  | .cls _, _, _ => rfl
  | .scr _, _, _ => rfl
  | .tup xs, v, h => by
    rw [Rep] at h
    obtain ⟨a, vs, _, _, r⟩ := h
    rw [under]; exact RepL.under_ xs vs r
  | .lst xs, v, h => by
    rw [Rep] at h
    obtain ⟨a, vs, _, _, r⟩ := h
    rw [under]; exact RepL.under_ xs vs r
  | .dct ks ds, v, h => by
    rw [Rep] at h
    obtain ⟨a, kv, vs, _, _, r1, r2⟩ := h
    rw [under, RepL.under_ ks kv r1, RepL.under_ ds vs r2]; rfl
  | .ins c ns ds, v, h => by
    rw [Rep] at h
    obtain ⟨a, C, dx, fs, _, _, _, _, _, r⟩ := h
    rw [under]; exact RepL.under_ ds _ r
  | .ptr n, v, h => by
    rw [Rep] at h
    obtain ⟨a, _, q⟩ := h
    rw [under]; exact decide_eq_true (List.getElem?_eq_some_iff.mp q).1
  | .exc c ns ds, v, h => by
    rw [Rep] at h
    obtain ⟨a, C, dx, fs, _, _, _, _, _, _, _, r⟩ := h
    rw [under]; exact RepL.under_ ds _ r
  | .lam _ _, _, _ => rfl
  | .lamc T ds, v, h => by
    rw [Rep] at h
    obtain ⟨f, clo, vs, _, _, _, r⟩ := h
    rw [under]; exact RepL.under_ ds vs r
theorem RepL.under_ : ∀ (ds : List D) (vs : List V), RepL K mg ρ H ds vs → underL ρ.length ds = true
  | [], _, _ => rfl
  | d :: ds, vs, h => by
    rw [RepL] at h
    obtain ⟨v, r, _, h1, h2⟩ := h
    rw [underL, Rep.under_ d v h1, RepL.under_ ds r h2]; rfl
end
theorem MRep.under_ {a : Addr} {m : MO} (h : MRep K mg ρ H a m) : underM ρ.length m = true := by
  cases m with
  | lst ds =>
    obtain ⟨vs, _, r⟩ := h
    exact RepL.under_ ds vs r
  | dct lk ks ds =>
    obtain ⟨kvs, _, r1, r2⟩ := h
    show (underL _ ks && underL _ ds) = true
    rw [RepL.under_ ks _ r1, RepL.under_ ds _ r2]; rfl
  | ins c ns ds =>
    obtain ⟨C, dx, fs, _, _, _, r⟩ := h
    exact RepL.under_ ds _ r
  | tab P q => rfl
/-- at the end: the handles behind ρ are forgotten -/
structure Back (K : PySem.W.Frag) (mg : Str → Option Value) (ρ ρ' : List Addr) (H : Hp) (S' : Store) : Prop where
  pre : ∃ t, ρ' = ρ ++ t
  w : WOk K mg ρ' H S'
theorem Back.sub (b : Back K mg ρ ρ' H S') : ∀ a, a ∉ ρ' → a ∉ ρ := fun a h q => by
  obtain ⟨t, e⟩ := b.pre
  exact h (by rw [e]; exact List.mem_append_left _ q)
theorem Back.out (b : Back K mg ρ ρ' H S') {n : Nat} {a : Addr} (h : ρ'[n]? = some a) (hn : ¬ n < ρ.length) : a ∉ ρ := fun q => by
  obtain ⟨t, e⟩ := b.pre
  have nd := b.w.nd
  rw [e] at h nd
  rw [List.getElem?_append_right (by omega)] at h
  exact (List.nodup_append.mp nd).2.2 a q a (List.mem_of_getElem? h) rfl
theorem Back.in_ (b : Back K mg ρ ρ' H S') {n : Nat} {a : Addr} (h : ρ'[n]? = some a) (hn : n < ρ.length) : ρ[n]? = some a := by
  obtain ⟨t, e⟩ := b.pre
  rw [e, List.getElem?_append_left hn] at h
  exact h
theorem Back.frz (b : Back K mg ρ ρ' H S') : ∀ (f n : Nat) (d' : D) (a : Addr), frzP S' ρ.length f n = some d' → ρ'[n]? = some a → Rep K mg ρ H d' (.ref a) := by
  intro f
  induction f with
  | zero =>
    intro n d' a e h
    rw [frzP] at e
    split at e
    · rename_i hn
      cases e
      rw [Rep]
      exact ⟨a, rfl, b.in_ h hn⟩
    · cases e
  | succ f ih =>
    intro n d' a e h
    rw [frzP] at e
    split at e
    · rename_i hn
      cases e
      rw [Rep]
      exact ⟨a, rfl, b.in_ h hn⟩
    · rename_i hn
      have hout := b.out h hn
      split at e
      · rename_i ds em
        obtain ⟨vs, h1, r⟩ := b.w.ob n a _ h em
        obtain ⟨ys, e1, e2⟩ := Option.map_eq_some_iff.mp e
        subst e2
        rw [Rep]
        exact ⟨a, vs, rfl, ⟨hout, h1⟩, frzL_rep (fun n d' a => ih n d' a) b.sub ds ys vs e1 r⟩
      · rename_i ks ds em
        obtain ⟨kvs, h1, r1, r2⟩ := b.w.ob n a _ h em
        rw [if_neg Bool.false_ne_true] at h1
        split at e
        · rename_i x y ex ey
          cases e
          rw [Rep]
          exact ⟨a, _, _, rfl, ⟨hout, kvs, .inl h1, rfl, rfl⟩, frzL_rep (fun n d' a => ih n d' a) b.sub ks x _ ex r1, frzL_rep (fun n d' a => ih n d' a) b.sub ds y _ ey r2⟩
        · cases e
      · rename_i c ns ds em
        obtain ⟨C, dx, fs, hm, h1, hn', r⟩ := b.w.ob n a _ h em
        obtain ⟨ys, e1, e2⟩ := Option.map_eq_some_iff.mp e
        subst e2
        rw [Rep]
        exact ⟨a, C, dx, fs, rfl, hout, hm, h1, hn', frzL_rep (fun n d' a => ih n d' a) b.sub ds ys _ e1 r⟩
      · cases e
theorem Back.shrinkL (b : Back K mg ρ ρ' H S') {ds : List D} {vs : List V} (hu : underL ρ.length ds = true) (r : RepL K mg ρ' H ds vs) : RepL K mg ρ H ds vs :=
  frzL_rep (g := frzP S' ρ.length 0) (fun n d' a => b.frz 0 n d' a) b.sub ds ds vs (frz_underL (fun n hn => frzP_lt hn) ds hu) r
theorem Back.wok {H₀ : Hp} (b : Back K mg ρ ρ' H S') (w0 : WOk K mg ρ H₀ S) (c : Closed S S') : WOk K mg ρ H (S'.take S.length) := by
  obtain ⟨t, e⟩ := id b.pre
  have hl : ρ.length ≤ S'.length := by
    have := b.w.len
    rw [e, List.length_append] at this
    omega
  refine ⟨?_, w0.nd, fun a ha => b.w.tr a (by rw [e]; exact List.mem_append_left _ ha), fun n a m e1 e2 => ?_⟩
  · rw [List.length_take, w0.len]; have := w0.len; omega
  · have hn : n < S.length := by rw [← w0.len]; exact (List.getElem?_eq_some_iff.mp e1).1
    rw [List.getElem?_take_of_lt hn] at e2
    have e3 : ρ'[n]? = some a := by rw [e, List.getElem?_append_left (List.getElem?_eq_some_iff.mp e1).1]; exact e1
    have hu : underM ρ.length m = true := by
      rcases c n m hn e2 with q | q
      · exact (w0.ob n a m e1 q).under_
      · rw [w0.len]; exact q
    have q := b.w.ob n a m e3 e2
    cases m with
    | lst ds =>
      obtain ⟨vs, h1, r⟩ := q
      exact ⟨vs, h1, b.shrinkL hu r⟩
    | dct lk ks ds =>
      obtain ⟨kvs, h1, r1, r2⟩ := q
      have hu : (underL ρ.length ks && underL ρ.length ds) = true := hu
      rw [Bool.and_eq_true] at hu
      exact ⟨kvs, h1, b.shrinkL hu.1 r1, b.shrinkL hu.2 r2⟩
    | ins c ns ds =>
      obtain ⟨C, dx, fs, h0, h1, h2, r⟩ := q
      exact ⟨C, dx, fs, h0, h1, h2, b.shrinkL hu r⟩
    | tab P q' =>
      obtain ⟨hP, ps, h1, h2, h3⟩ := q
      refine ⟨hP, ps, h1, h2, fun pos cv hc => ?_⟩
      obtain ⟨c, e1, n, e2⟩ := h3 pos cv hc
      exact ⟨c, e1, b.sub _ n, e2⟩
theorem Ext.back {H₀ : Hp} (x : Ext ρ H₀ ρ' H) : Ext ρ H₀ ρ H := ⟨⟨[], by simp⟩, fun a h n => absurd h n, x.keep⟩
/-- what a def's end is worth to the caller -/
theorem fin_imp {W : Value → Option Addr → Hp → Prop} {Q : VK} {o : Out D} (w0 : WOk K mg ρ H S) (h : PostE K mg W ρ H Q (fin S o)) : PostE K mg W ρ H Q o := by
  cases o with
  | bad => exact h
  | ok d S1 =>
    have h : PostE K mg W ρ H Q (open Classical in if Closed S S1 then (match frzD (frzP S1 S.length 6) d with
      | some d' => .ok d' (S1.take S.length)
      | none => .bad) else .bad) := h
    intro v ρ1 H1 x w1 r
    by_cases c : Closed S S1
    · rw [if_pos c] at h
      have b : Back K mg ρ ρ1 H1 S1 := ⟨x.pre, w1⟩
      cases q : frzD (frzP S1 S.length 6) d with
      | none => rw [q] at h; exact h.elim
      | some d' =>
        rw [q] at h
        have hl : frzP S1 S.length 6 = frzP S1 ρ.length 6 := by rw [w0.len]
        rw [hl] at q
        exact h v ρ H1 x.back (b.wok w0 c) (frzD_rep (fun n d' a => b.frz 6 n d' a) b.sub d d' v q r)
    · rw [if_neg c] at h; exact h.elim
  | ex d S1 =>
    have h : PostE K mg W ρ H Q (open Classical in if Closed S S1 then (match frzD (frzP S1 S.length 6) d with
      | some d' => .ex d' (S1.take S.length)
      | none => .bad) else .bad) := h
    intro C dd ρ1 H1 x w1 r
    by_cases c : Closed S S1
    · rw [if_pos c] at h
      have b : Back K mg ρ ρ1 H1 S1 := ⟨x.pre, w1⟩
      cases q : frzD (frzP S1 S.length 6) d with
      | none => rw [q] at h; exact h.elim
      | some d' =>
        rw [q] at h
        have hl : frzP S1 S.length 6 = frzP S1 ρ.length 6 := by rw [w0.len]
        rw [hl] at q
        refine h C dd ρ H1 x.back (b.wok w0 c) ?_
        obtain ⟨c', ns, ds, Ca, da, fs, e, hm, hC, hdd, nda, hx, hn, rl⟩ := r
        subst e
        rw [frzD] at q
        obtain ⟨ys, e1, e2⟩ := Option.map_eq_some_iff.mp q
        exact ⟨c', ns, ys, Ca, da, fs, e2.symm, hm, hC, hdd, b.sub da nda, hx, hn, frzL_rep (fun n d' a => b.frz 6 n d' a) b.sub ds ys _ e1 rl⟩
    · rw [if_neg c] at h; exact h.elim
end
/-! ### promises -/
def spOf (K : PySem.W.Frag) (mg : Str → Option Value) (n : Nat) (g : SemL) : Sp := fun vs H Q E => ∃ ρ S ds, ds.length = n ∧ WOk K mg ρ H S ∧ RepL K mg ρ H ds vs ∧ PostE K mg E ρ H Q (g ds S)
def SO.out : SO → Out D
  | .nx _ S => .ok .non S
  | .rt d S => .ok d S
  | .ex e _ S => .ex e S
  | _ => .bad
/-- a def by its body: N names -/
noncomputable def defS (N : Nat) (body : SX) : SemL := fun ds S => fin S (body (ds.map some ++ List.replicate (N - ds.length) none) S).out
section
variable {P : Program} {w : World} {K : PySem.W.Frag} {mg : Str → Option Value} {base : Heap}
theorem rst_start {ρ : List Addr} {H : Hp} {N : List Str} {ds : List D} {vs : List V} (r : RepL K mg ρ H ds vs) : RSt K mg ρ H (L2.start N vs) (ds.map some ++ List.replicate (N.length - ds.length) none) := by
  have hl := r.len
  refine ⟨by unfold L2.start; simp [hl], fun i d e => ?_⟩
  have hi : i < ds.length := by
    by_cases hi : i < ds.length
    · exact hi
    · rw [List.getElem?_append_right (by simpa using hi), List.getElem?_replicate] at e
      split at e <;> cases e
  rw [List.getElem?_append_left (by simpa using hi), List.getElem?_map] at e
  cases q : ds[i]? with
  | none => rw [q] at e; cases e
  | some d' =>
    rw [q] at e; cases e
    obtain ⟨v, e1, rv⟩ := r.get q
    refine ⟨v, ?_, rv⟩
    unfold L2.start
    rw [List.getElem?_append_left (by simpa [← hl] using hi), List.getElem?_map, e1]; rfl
end
/-! ### calls -/
section
variable {X : Cx} {W : WX} {k n : Nat} {f C : Addr} {fd : FuncData} {ps : List Str} {g : SemL} {x m : Str} {p pos apos : Pos} {e o : Expr} {es : List Expr} {fa : AX} {fe : EX} {dvs : List V} {dfs : List Value} {dds : List D}
def fldsOf (S : Store) : D → Option (Str × List Str × List D)
  | .ins c ns vs => some (c, ns, vs)
  | .ptr n => match S[n]? with
    | some (.ins c ns vs) => some (c, ns, vs)
    | _ => none
  | _ => none
/-- e.f: a field -/
def lookN (f : Str) : List Str → List D → Option D
  | n :: ns, v :: vs => if f = n then some v else lookN f ns vs
  | _, _ => none
theorem lookN_rep {K : PySem.W.Frag} {mg : Str → Option Value} {ρ : List Addr} {H : Hp} {f : Str} {d : D} : ∀ {fs : List (Str × V)} {ns : List Str} {vs : List D}, fs.map (·.1) = ns → RepL K mg ρ H vs (fs.map (·.2)) → lookN f ns vs = some d → ∃ v, fs.lookup f = some v ∧ Rep K mg ρ H d v
  | [], _, _, e, _, h => by simp at e; subst e; simp [lookN] at h
  | (n, v) :: fs, _, [], e, r, h => by simp only [List.map_cons] at e; subst e; simp [lookN] at h
  | (n, v) :: fs, _, d0 :: vs, e, r, h => by
    simp only [List.map_cons] at e r
    subst e
    rw [RepL] at r
    obtain ⟨v', r', e', r1, r2⟩ := r
    cases e'
    unfold lookN at h
    by_cases q : f = n
    · rw [if_pos q] at h
      cases h
      subst q
      exact ⟨v, by simp [List.lookup], r1⟩
    · rw [if_neg q] at h
      obtain ⟨u, h1, h2⟩ := lookN_rep rfl r2 h
      refine ⟨u, ?_, h2⟩
      rw [List.lookup_cons, beq_eq_false_iff_ne.mpr q]
      exact h1
end
end Z
/-! Z4: the operators, subscripts, methods and built-ins by data. -/
namespace Z
open PySem PySem.Spec L2
section
variable {K : PySem.W.Frag} {mg : Str → Option Value} {ρ : List Addr} {H : Hp} {S : Store}
theorem rep_int {i : Int} {v : V} (h : Rep K mg ρ H (.int i) v) : v = .int i := by rw [Rep] at h; exact h
theorem rep_bl {i : Bool} {v : V} (h : Rep K mg ρ H (.bl i) v) : v = .bl i := by rw [Rep] at h; exact h
theorem rep_str {i : Str} {v : V} (h : Rep K mg ρ H (.str i) v) : v = .str i := by rw [Rep] at h; exact h
theorem rep_non {v : V} (h : Rep K mg ρ H .non v) : v = .non := by rw [Rep] at h; exact h
theorem rep_ty {n : String} {v : V} (h : Rep K mg ρ H (.ty n) v) : v = .ty n := by rw [Rep] at h; exact h
theorem mk_int {i : Int} : Rep K mg ρ H (.int i) (.int i) := by rw [Rep]
theorem mk_bl {i : Bool} : Rep K mg ρ H (.bl i) (.bl i) := by rw [Rep]
theorem mk_str {i : Str} : Rep K mg ρ H (.str i) (.str i) := by rw [Rep]
theorem asL_rep {d : D} {v : V} {ds : List D} (w : WOk K mg ρ H S) (r : Rep K mg ρ H d v) (h : asL S d = some ds) : ∃ a vs, v = .ref a ∧ H a = some (.lst vs) ∧ RepL K mg ρ H ds vs := by
  cases d with
  | lst xs =>
    unfold asL at h
    cases h
    rw [Rep] at r
    obtain ⟨a, vs, e, t, r⟩ := r
    exact ⟨a, vs, e, t.2, r⟩
  | ptr n =>
    unfold asL at h
    simp only at h
    rw [Rep] at r
    obtain ⟨a, e, q⟩ := r
    split at h
    · rename_i xs em
      cases h
      obtain ⟨vs, h1, h2⟩ := w.ob n a _ q em
      exact ⟨a, vs, e, h1, h2⟩
    · cases h
  | _ => unfold asL at h; cases h
/-- a list or a tuple that is read; a script too -/
def asS (S : Store) : D → Option (List D)
  | .tup ds => some ds
  | .scr xs => some (xs.map .int)
  | d => asL S d
theorem repL_ints : ∀ xs : List Int, RepL K mg ρ H (xs.map .int) (xs.map V.int)
  | [] => RepL.nil
  | x :: xs => RepL.cons mk_int (repL_ints xs)
theorem asS_rep {d : D} {v : V} {ds : List D} (w : WOk K mg ρ H S) (r : Rep K mg ρ H d v) (h : asS S d = some ds) : ∃ a vs, v = .ref a ∧ (SqL K H a vs ∨ SqT K H a vs) ∧ RepL K mg ρ H ds vs := by
  cases d with
  | tup xs =>
    unfold asS at h
    cases h
    rw [Rep] at r
    obtain ⟨a, vs, e, t, r⟩ := r
    exact ⟨a, vs, e, .inr t.sq, r⟩
  | scr xs =>
    unfold asS at h
    cases h
    rw [Rep] at r
    obtain ⟨a, e, t⟩ := r
    exact ⟨a, _, e, .inl t.sq, repL_ints xs⟩
  | lst xs =>
    obtain ⟨a, vs, e, h1, h2⟩ := asL_rep w r (show asL S (.lst xs) = some ds from h)
    exact ⟨a, vs, e, .inl (.inl (.inl h1)), h2⟩
  | ptr n =>
    obtain ⟨a, vs, e, h1, h2⟩ := asL_rep w r (show asL S (.ptr n) = some ds from h)
    exact ⟨a, vs, e, .inl (.inl (.inl h1)), h2⟩
  | _ => unfold asS asL at h; cases h
end
/-! ### ints -/
def iiS (g : Int → Int → D) : Sem2 := fun d e S => match d, e with
  | .int i, .int j => .ok (g i j) S
  | _, _ => .bad
def iiC (C : Int → Int → Bool) (g : Int → Int → D) : Sem2 := fun d e S => match d, e with
  | .int i, .int j => if C i j = true then .ok (g i j) S else .bad
  | _, _ => .bad
section
variable {X : Cx}
theorem d_ii {f : Value → Value → Sem Value} {gd : Int → Int → D} {g : Int → Int → V} (o : OpR X f (rI0 g)) (hg : ∀ i j ρ H, Rep X.K X.mg ρ H (gd i j) (g i j)) : OpD X f (iiS gd) := by
  refine ⟨_, o, fun Wp ρ H S d e x y Q w rx ry p => ?_⟩
  unfold iiS at p
  split at p
  · exact ⟨_, _, rep_int rx, rep_int ry, post_ok p w (hg _ _ ρ H)⟩
  · exact p.elim
theorem d_iiC {f : Value → Value → Sem Value} {C : Int → Int → Prop} {Cb : Int → Int → Bool} {gd : Int → Int → D} {g : Int → Int → V} (o : OpR X f (rI C g)) (hC : ∀ i j, Cb i j = true → C i j) (hg : ∀ i j ρ H, Rep X.K X.mg ρ H (gd i j) (g i j)) : OpD X f (iiC Cb gd) := by
  refine ⟨_, o, fun Wp ρ H S d e x y Q w rx ry p => ?_⟩
  unfold iiC at p
  split at p
  · split at p
    · rename_i hc
      exact ⟨_, _, rep_int rx, rep_int ry, hC _ _ hc, post_ok p w (hg _ _ ρ H)⟩
    · exact p.elim
  · exact p.elim
def addI : Sem2 := iiS fun i j => .int (i + j)
def subI : Sem2 := iiS fun i j => .int (i - j)
/-- below a million bits together -/
def mulB (i j : Int) : Bool := decide (i.natAbs.log2 + j.natAbs.log2 < 1000000)
def mulI : Sem2 := iiC mulB fun i j => .int (i * j)
def divB (_ j : Int) : Bool := decide (0 < j ∧ j.natAbs.log2 < 9000)
def divI : Sem2 := iiC divB fun i j => .int (i / j)
def modI : Sem2 := iiC (fun _ j => decide (0 < j)) fun i j => .int (i % j)
def powI : Sem2 := iiC (fun i j => decide (0 ≤ j ∧ j ≤ 1000 ∧ i.natAbs < 2 ^ 60)) fun i j => .int (i ^ j.toNat)
theorem d_addI : OpD X (binaryOp .Add) addI := d_ii op_add fun _ _ _ _ => mk_int
theorem d_mulI : OpD X (binaryOp .Mult) mulI := d_iiC op_mulW (fun i j h => of_decide_eq_true (p := i.natAbs.log2 + j.natAbs.log2 < 1000000) h) fun _ _ _ _ => mk_int
theorem d_divI : OpD X (binaryOp .FloorDiv) divI := d_iiC op_fdivW (fun i j h => of_decide_eq_true (p := 0 < j ∧ j.natAbs.log2 < 9000) h) fun _ _ _ _ => mk_int
theorem d_modI : OpD X (binaryOp .Mod) modI := d_iiC op_mod (fun i j h => of_decide_eq_true h) fun _ _ _ _ => mk_int
theorem d_powI : OpD X (binaryOp .Pow) powI := d_iiC op_pow (fun i j h => by
  have h := of_decide_eq_true h
  have h1 : (2 : Nat) ^ 60 < 2 ^ 64 := by decide
  exact ⟨h.1, by omega, by omega⟩) fun _ _ _ _ => mk_int
def ltI : Sem2 := iiS fun i j => .bl (decide (i < j))
def leI : Sem2 := iiS fun i j => .bl (decide (i ≤ j))
def gtI : Sem2 := iiS fun i j => .bl (decide (j < i))
def geI : Sem2 := iiS fun i j => .bl (decide (j ≤ i))
theorem d_ltI : OpD X (compareOp .Lt) ltI := d_ii op_lt fun _ _ _ _ => mk_bl
theorem d_gtI : OpD X (compareOp .Gt) gtI := d_ii op_gt fun _ _ _ _ => mk_bl
theorem d_geI : OpD X (compareOp .GtE) geI := d_ii op_ge fun _ _ _ _ => mk_bl
def negI : Sem1 := fun d S => match d with
  | .int i => .ok (.int (-i)) S
  | _ => .bad
/-! ### texts -/
def addS : Sem2 := fun d e S => match d, e with
  | .str i, .str j => if i.length + j.length ≤ 1000000 then .ok (.str (i ++ j)) S else .bad
  | _, _ => .bad
theorem d_addS : OpD X (binaryOp .Add) addS := by
  refine ⟨_, op_add_str, fun Wp ρ H S d e x y Q w rx ry p => ?_⟩
  unfold addS at p
  split at p
  · split at p
    · rename_i hl
      exact ⟨_, _, rep_str rx, rep_str ry, line_of hl, post_ok p w mk_str⟩
    · exact p.elim
  · exact p.elim
def ltS : Sem2 := fun d e S => match d, e with
  | .str i, .str j => .ok (.bl (decide (i.cps.toList < j.cps.toList))) S
  | _, _ => .bad
theorem d_ltS : OpD X (compareOp .Lt) ltS := by
  refine ⟨_, op_lt_str, fun Wp ρ H S d e x y Q w rx ry p => ?_⟩
  unfold ltS at p
  split at p
  · exact ⟨_, _, rep_str rx, rep_str ry, post_ok p w mk_bl⟩
  · exact p.elim
/-- one sign in a text -/
def inSg (neg : Bool) : Sem2 := fun d e S => match d, e with
  | .str i, .str j => (match i.cps.toList with
    | [c] => .ok (.bl (if neg = true then !decide (c ∈ j.cps.toList) else decide (c ∈ j.cps.toList))) S
    | _ => .bad)
  | _, _ => .bad
theorem str_of_toList {i : Str} {c : Nat} (h : i.cps.toList = [c]) : i = ⟨#[c]⟩ := by
  obtain ⟨a⟩ := i
  have : a = #[c] := by
    have := congrArg List.toArray h
    simpa using this
  rw [this]
theorem d_inSg : OpD X (compareOp .In) (inSg false) := by
  refine ⟨_, op_in_sign, fun Wp ρ H S d e x y Q w rx ry p => ?_⟩
  unfold inSg at p
  split at p
  · split at p
    · rename_i c hc
      have hs := str_of_toList hc
      refine ⟨c, _, ?_, rep_str ry, post_ok p w mk_bl⟩
      rw [rep_str rx, hs]
    · exact p.elim
  · exact p.elim
/-! ### == by data -/
mutual
def toP0 : D → Option PyData
  | .non => some .none
  | .bl b => some (.bool b)
  | .int i => some (.int i)
  | .str s => some (.str s)
  | .lst xs => (toPL0 xs).map .list
  | .tup xs => (toPL0 xs).map .tuple
  | _ => none
def toPL0 : List D → Option (List PyData)
  | [] => some []
  | d :: ds => match toP0 d, toPL0 ds with
    | some a, some b => some (a :: b)
    | _, _ => none
end
def toP (S : Store) : D → Option PyData
  | .ptr n => match S[n]? with
    | some (.lst ds) => (toPL0 ds).map .list
    | _ => none
  | d => toP0 d
def eqD (neg : Bool) : Sem2 := fun d e S => match toP S d, toP S e with
  | some a, some b => if SeqAt.shaped a = true ∧ SeqAt.shaped b = true then .ok (.bl (if neg = true then !PyData.eqv a b else PyData.eqv a b)) S else .bad
  | _, _ => .bad
mutual
theorem toP0_rep {K : PySem.W.Frag} {mg : Str → Option Value} {ρ : List Addr} {H : Hp} : ∀ (d : D) (v : V) (p : PyData), Rep K mg ρ H d v → toP0 d = some p → Dp K H v p
  | .non, v, p, r, h => by rw [toP0] at h; cases h; rw [rep_non r]; exact .non
  | .bl b, v, p, r, h => by rw [toP0] at h; cases h; rw [rep_bl r]; exact .bl b
  | .int b, v, p, r, h => by rw [toP0] at h; cases h; rw [rep_int r]; exact .int b
  | .str b, v, p, r, h => by rw [toP0] at h; cases h; rw [rep_str r]; exact .str b
  | .lst xs, v, p, r, h => by
    rw [toP0] at h
    obtain ⟨ys, e1, e2⟩ := Option.map_eq_some_iff.mp h
    subst e2
    rw [Rep] at r
    obtain ⟨a, vs, e, t, r⟩ := r
    subst e
    exact .lst t.sq (toPL0_rep xs vs ys r e1)
  | .tup xs, v, p, r, h => by
    rw [toP0] at h
    obtain ⟨ys, e1, e2⟩ := Option.map_eq_some_iff.mp h
    subst e2
    rw [Rep] at r
    obtain ⟨a, vs, e, t, r⟩ := r
    subst e
    exact .tup t.sq (toPL0_rep xs vs ys r e1)
  | .ty _, v, p, r, h => by rw [toP0] at h; all_goals (first | cases h | (intros; rintro ⟨⟩))
  | .cls _, v, p, r, h => by rw [toP0] at h; all_goals (first | cases h | (intros; rintro ⟨⟩))
  | .dct _ _, v, p, r, h => by rw [toP0] at h; all_goals (first | cases h | (intros; rintro ⟨⟩))
  | .ins _ _ _, v, p, r, h => by rw [toP0] at h; all_goals (first | cases h | (intros; rintro ⟨⟩))
  | .ptr _, v, p, r, h => by rw [toP0] at h; all_goals (first | cases h | (intros; rintro ⟨⟩))
  | .scr _, v, p, r, h => by rw [toP0] at h; all_goals (first | cases h | (intros; rintro ⟨⟩))
  | .exc _ _ _, v, p, r, h => by rw [toP0] at h; all_goals (first | cases h | (intros; rintro ⟨⟩))
  | .lam _ _, v, p, r, h => by rw [toP0] at h; all_goals (first | cases h | (intros; rintro ⟨⟩))
  | .lamc _ _, v, p, r, h => by rw [toP0] at h; all_goals (first | cases h | (intros; rintro ⟨⟩))
theorem toPL0_rep {K : PySem.W.Frag} {mg : Str → Option Value} {ρ : List Addr} {H : Hp} : ∀ (ds : List D) (vs : List V) (ps : List PyData), RepL K mg ρ H ds vs → toPL0 ds = some ps → DpAll K H vs ps
  | [], vs, ps, r, h => by rw [toPL0] at h; cases h; rw [RepL] at r; subst r; exact .nil
  | d :: ds, vs, ps, r, h => by
    rw [toPL0] at h
    split at h
    · rename_i a b ea eb
      cases h
      rw [RepL] at r
      obtain ⟨v, r', e, h1, h2⟩ := r
      subst e
      exact .cons (toP0_rep d v a h1 ea) (toPL0_rep ds r' b h2 eb)
    · cases h
end
theorem toP_rep {K : PySem.W.Frag} {mg : Str → Option Value} {ρ : List Addr} {H : Hp} {S : Store} {d : D} {v : V} {p : PyData} (w : WOk K mg ρ H S) (r : Rep K mg ρ H d v) (h : toP S d = some p) : Dp K H v p := by
  cases d with
  | ptr n =>
    unfold toP at h
    simp only at h
    split at h
    · rename_i ds em
      obtain ⟨ys, e1, e2⟩ := Option.map_eq_some_iff.mp h
      subst e2
      rw [Rep] at r
      obtain ⟨a, e, q⟩ := r
      subst e
      obtain ⟨vs, h1, h2⟩ := w.ob n a _ q em
      exact .lst (.inl (.inl h1)) (toPL0_rep ds vs ys h2 e1)
    · cases h
  | _ => exact toP0_rep _ v p r h
theorem d_eq (hu : X.A.units + 64 < cLine) : OpD X (compareOp .Eq) (eqD false) := by
  refine ⟨_, op_eqD hu, fun Wp ρ H S d e x y Q w rx ry p => ?_⟩
  unfold eqD at p
  split at p
  · rename_i a b ea eb
    split at p
    · rename_i hs
      exact ⟨a, b, toP_rep w rx ea, toP_rep w ry eb, hs.1, hs.2, post_ok p w mk_bl⟩
    · exact p.elim
  · exact p.elim
theorem d_ne (hu : X.A.units + 64 < cLine) : OpD X (compareOp .NotEq) (eqD true) := by
  refine ⟨_, op_neD hu, fun Wp ρ H S d e x y Q w rx ry p => ?_⟩
  unfold eqD at p
  split at p
  · rename_i a b ea eb
    split at p
    · rename_i hs
      exact ⟨a, b, toP_rep w rx ea, toP_rep w ry eb, hs.1, hs.2, post_ok p w mk_bl⟩
    · exact p.elim
  · exact p.elim
/-- is None -/
def isNon : D → Bool
  | .non => true
  | _ => false
def isN (neg : Bool) : Sem2 := fun d e S => match e with
  | .non => .ok (.bl (if neg = true then !isNon d else isNon d)) S
  | _ => .bad
theorem isN_val {K : PySem.W.Frag} {mg : Str → Option Value} {ρ : List Addr} {H : Hp} {d : D} {x : V} (r : Rep K mg ρ H d x) : decide (x = V.non) = isNon d := by
  cases d with
  | non => rw [rep_non r]; rfl
  | bl b => rw [rep_bl r]; rfl
  | int b => rw [rep_int r]; rfl
  | str b => rw [rep_str r]; rfl
  | ty b => rw [rep_ty r]; rfl
  | cls c => rw [Rep] at r; obtain ⟨C, _, e⟩ := r; rw [e]; rfl
  | tup xs => rw [Rep] at r; obtain ⟨a, vs, e, _⟩ := r; rw [e]; rfl
  | lst xs => rw [Rep] at r; obtain ⟨a, vs, e, _⟩ := r; rw [e]; rfl
  | dct ks vs => rw [Rep] at r; obtain ⟨a, _, _, e, _⟩ := r; rw [e]; rfl
  | ins c ns vs => rw [Rep] at r; obtain ⟨a, _, _, _, e, _⟩ := r; rw [e]; rfl
  | ptr n => rw [Rep] at r; obtain ⟨a, e, _⟩ := r; rw [e]; rfl
  | scr xs => rw [Rep] at r; obtain ⟨a, e, _⟩ := r; rw [e]; rfl
  | exc c ns vs => rw [Rep] at r; obtain ⟨a, _, _, _, e, _⟩ := r; rw [e]; rfl
  | lam T c => rw [Rep] at r; obtain ⟨a, e, _⟩ := r; rw [e]; rfl
  | lamc T c => rw [Rep] at r; obtain ⟨a, _, _, e, _⟩ := r; rw [e]; rfl
theorem d_isN : OpD X (compareOp .Is) (isN false) := by
  refine ⟨_, op_isN, fun Wp ρ H S d e x y Q w rx ry p => ?_⟩
  unfold isN at p
  split at p
  · refine ⟨rep_non ry, ?_⟩
    rw [isN_val rx]
    exact post_ok p w mk_bl
  · exact p.elim
/-! ### lists and tuples: +, *, in -/
def addL : Sem2 := fun d e S => match asL S d, asL S e with
  | some a, some b => if a.length + b.length ≤ 1000000 then .ok (.lst (a ++ b)) S else .bad
  | _, _ => .bad
theorem d_addL : OpD X (binaryOp .Add) addL := by
  refine ⟨_, op_cat, fun Wp ρ H S d e x y Q w rx ry p => ?_⟩
  unfold addL at p
  split at p
  · rename_i a b ea eb
    split at p
    · rename_i hl
      obtain ⟨l, vs, e1, h1, r1⟩ := asL_rep w rx ea
      obtain ⟨l2, vs2, e2, h2, r2⟩ := asL_rep w ry eb
      exact ⟨l, l2, vs, vs2, e1, e2, h1, h2, by rw [← r1.len, ← r2.len]; exact line_of hl, fun q hq => post_lst p w (r1.append r2) hq⟩
    · exact p.elim
  · exact p.elim
def addT : Sem2 := fun d e S => match d, e with
  | .tup a, .tup b => if a ≠ [] ∧ b ≠ [] ∧ a.length + b.length ≤ 1000000 then .ok (.tup (a ++ b)) S else .bad
  | _, _ => .bad
theorem d_addT : OpD X (binaryOp .Add) addT := by
  refine ⟨_, op_catT, fun Wp ρ H S d e x y Q w rx ry p => ?_⟩
  unfold addT at p
  split at p
  · rename_i a b
    split at p
    · rename_i hl
      rw [Rep] at rx ry
      obtain ⟨l, vs, e1, h1, r1⟩ := rx
      obtain ⟨l2, vs2, e2, h2, r2⟩ := ry
      have n1 : vs ≠ [] := fun q => hl.1 (List.length_eq_zero_iff.mp (by rw [r1.len, q]; rfl))
      have n2 : vs2 ≠ [] := fun q => hl.2.1 (List.length_eq_zero_iff.mp (by rw [r2.len, q]; rfl))
      exact ⟨l, l2, vs, vs2, e1, e2, h1.sq, h2.sq, n1, by rw [← r1.len, ← r2.len]; exact line_of hl.2.2, fun q => absurd q n2, fun _ q hq => post_tup p w (r1.append r2) hq⟩
    · exact p.elim
  · exact p.elim
def repD (k : Nat) (xs : List D) : List D := (List.replicate k xs).flatten
theorem RepL.rep {K : PySem.W.Frag} {mg : Str → Option Value} {ρ : List Addr} {H : Hp} {ds : List D} {vs : List V} (r : RepL K mg ρ H ds vs) : ∀ k : Nat, RepL K mg ρ H (repD k ds) (List.replicate k vs).flatten
  | 0 => RepL.nil
  | k + 1 => by
    show RepL K mg ρ H (List.replicate (k + 1) ds).flatten _
    rw [List.replicate_succ, List.replicate_succ, List.flatten_cons, List.flatten_cons]
    exact r.append (RepL.rep r k)
def mulL : Sem2 := fun d e S => match asL S d, e with
  | some a, .int k => if k < 1000000 ∧ a.length * k.toNat ≤ 1000000 ∧ -1000000 ≤ k then .ok (.lst (repD k.toNat a)) S else .bad
  | _, _ => .bad
theorem d_mulL : OpD X (binaryOp .Mult) mulL := by
  refine ⟨_, op_rep, fun Wp ρ H S d e x y Q w rx ry p => ?_⟩
  unfold mulL at p
  split at p
  · rename_i a k ea
    split at p
    · rename_i hl
      obtain ⟨l, vs, e1, h1, r1⟩ := asL_rep w rx ea
      exact ⟨l, k, vs, e1, rep_int ry, h1, by omega, by omega, by rw [← r1.len]; exact line_of hl.2.1, fun q hq => post_lst p w (r1.rep k.toNat) hq⟩
    · exact p.elim
  · exact p.elim
/-- x in a list or tuple of flat things -/
def flatD : D → Bool
  | .non => true
  | .bl _ => true
  | .int _ => true
  | .str _ => true
  | _ => false
def eqF : D → D → Bool
  | .non, .non => true
  | .bl a, .bl b => a == b
  | .bl a, .int j => (if a then 1 else 0) == j
  | .int i, .bl b => i == (if b then 1 else 0)
  | .int i, .int j => i == j
  | .str x, .str y => x == y
  | _, _ => false
end
end Z
/-! Z5: len, isinstance, all, any, list, tuple, subscripts, slices, texts' methods, dicts, by data. -/
namespace Z
open PySem PySem.Spec L2
section
variable {X : Cx}
/-! ### x in xs, flat -/
def inD (x : D) (xs : List D) : Bool := xs.any fun y => eqF y x
theorem flat_rep {K : PySem.W.Frag} {mg : Str → Option Value} {ρ : List Addr} {H : Hp} {d : D} {v : V} (f : flatD d = true) (r : Rep K mg ρ H d v) : flatV v = true := by
  cases d with
  | non => rw [rep_non r]; rfl
  | bl b => rw [rep_bl r]; rfl
  | int b => rw [rep_int r]; rfl
  | str b => rw [rep_str r]; rfl
  | _ => cases f
theorem eqF_rep {K : PySem.W.Frag} {mg : Str → Option Value} {ρ : List Addr} {H : Hp} {d e : D} {v u : V} (f : flatD d = true) (g : flatD e = true) (r : Rep K mg ρ H d v) (q : Rep K mg ρ H e u) : eqV v u = eqF d e := by
  cases d with
  | non => rw [rep_non r]; cases e with
    | non => rw [rep_non q]; rfl
    | bl b => rw [rep_bl q]; rfl
    | int b => rw [rep_int q]; rfl
    | str b => rw [rep_str q]; rfl
    | _ => cases g
  | bl b => rw [rep_bl r]; cases e with
    | non => rw [rep_non q]; rfl
    | bl b => rw [rep_bl q]; rfl
    | int b => rw [rep_int q]; rfl
    | str b => rw [rep_str q]; rfl
    | _ => cases g
  | int b => rw [rep_int r]; cases e with
    | non => rw [rep_non q]; rfl
    | bl b => rw [rep_bl q]; rfl
    | int b => rw [rep_int q]; rfl
    | str b => rw [rep_str q]; rfl
    | _ => cases g
  | str b => rw [rep_str r]; cases e with
    | non => rw [rep_non q]; rfl
    | bl b => rw [rep_bl q]; rfl
    | int b => rw [rep_int q]; rfl
    | str b => rw [rep_str q]; rfl
    | _ => cases g
  | _ => cases f
theorem in_rep {K : PySem.W.Frag} {mg : Str → Option Value} {ρ : List Addr} {H : Hp} {x : D} {v : V} (f : flatD x = true) (r : Rep K mg ρ H x v) : ∀ {ds : List D} {vs : List V}, RepL K mg ρ H ds vs → ds.all flatD = true → vs.all flatV = true ∧ inV v vs = inD x ds
  | [], _, h, _ => by rw [RepL] at h; subst h; exact ⟨rfl, rfl⟩
  | d :: ds, _, h, a => by
    rw [RepL] at h
    obtain ⟨u, r', e, h1, h2⟩ := h
    subst e
    rw [List.all_cons, Bool.and_eq_true] at a
    obtain ⟨i1, i2⟩ := in_rep f r h2 a.2
    refine ⟨by rw [List.all_cons, flat_rep a.1 h1, i1]; rfl, ?_⟩
    show (eqV u v || inV v r') = (eqF d x || inD x ds)
    rw [i2, eqF_rep a.1 f h1 r]
def inSq (neg : Bool) : Sem2 := fun d e S => match asS S e with
  | some ds => if flatD d = true ∧ ds.all flatD = true then .ok (.bl (if neg = true then !inD d ds else inD d ds)) S else .bad
  | none => .bad
theorem d_inSq : OpD X (compareOp .In) (inSq false) := by
  refine ⟨_, op_in_seq, fun Wp ρ H S d e x y Q w rx ry p => ?_⟩
  unfold inSq at p
  split at p
  · rename_i ds ea
    split at p
    · rename_i hf
      obtain ⟨a, vs, e1, h1, r1⟩ := asS_rep w ry ea
      obtain ⟨i1, i2⟩ := in_rep hf.1 rx r1 hf.2
      refine ⟨a, vs, e1, h1, flat_rep hf.1 rx, i1, ?_⟩
      rw [i2]
      exact post_ok p w mk_bl
    · exact p.elim
  · exact p.elim
/-! ### len -/
def semLen : SemL := fun ds S => match ds with
  | [.str s] => if s.length ≤ 1000000 then .ok (.int s.length) S else .bad
  | [d] => (match asS S d with
    | some xs => .ok (.int xs.length) S
    | none => .bad)
  | _ => .bad
theorem d_len : CallD X (.builtin "len") semLen := by
  refine ⟨_, call_len, fun Wp ρ H S ds xs Q w r p => ?_⟩
  match ds, r, p with
  | [d], r, p =>
    rw [RepL] at r
    obtain ⟨v, r', e, h1, h2⟩ := r
    rw [RepL] at h2
    subst h2 e
    have go : ∀ ys, asS S d = some ys → PostE X.K X.mg Wp ρ H Q (.ok (.int ys.length) S) → ∃ x n, [v] = [x] ∧ LenV X.K x H n ∧ Q (.int n) H := fun ys ea p => by
      obtain ⟨a, vs, e1, h3, r1⟩ := asS_rep w h1 ea
      subst e1
      refine ⟨_, vs.length, rfl, ?_, by rw [← r1.len]; exact post_ok p w mk_int⟩
      rcases h3 with h3 | h3
      · exact .inl ⟨vs, h3, rfl⟩
      · exact .inr ⟨vs, h3, rfl⟩
    cases d with
    | str s =>
      unfold semLen at p
      simp only at p
      split at p
      · rename_i hl
        exact ⟨.str s, s.length, by rw [rep_str h1], ⟨line_of hl, rfl⟩, post_ok p w mk_int⟩
      · exact p.elim
    | tup xs => exact go xs rfl p
    | lst xs => exact go xs rfl p
    | scr xs => exact go _ rfl p
    | ptr n =>
      have p : PostE X.K X.mg Wp ρ H Q (match asS S (.ptr n) with
        | some xs => .ok (.int xs.length) S
        | none => .bad) := p
      split at p
      · rename_i ys ey
        exact go ys ey p
      · exact p.elim
    | _ => exact p.elim
  | [], _, p => exact p.elim
  | d :: _ :: _, _, p => cases d <;> exact p.elim
/-! ### isinstance of built-in types -/
inductive Kd where
  | non | bl | int | str | tup | lst | dct
  deriving DecidableEq
def Kd.name : Kd → String
  | .non => "NoneType"
  | .bl => "bool"
  | .int => "int"
  | .str => "str"
  | .tup => "tuple"
  | .lst => "list"
  | .dct => "dict"
def kdOf (S : Store) : D → Option Kd
  | .non => some .non
  | .bl _ => some .bl
  | .int _ => some .int
  | .str _ => some .str
  | .tup _ => some .tup
  | .lst _ => some .lst
  | .scr _ => some .lst
  | .dct _ _ => some .dct
  | .ptr n => match S[n]? with
    | some (.lst _) => some .lst
    | some (.dct _ _ _) => some .dct
    | _ => none
  | _ => none
def isKd (k : Kd) (T : String) : Option Bool :=
  if T = "int" then some (k = .int ∨ k = .bl) else if T = "bool" then some (k = .bl) else if T = "str" then some (k = .str) else if T = "list" then some (k = .lst) else if T = "tuple" then some (k = .tup) else if T = "dict" then some (k = .dct) else none
theorem isKd_kit {K : PySem.W.Frag} {k : Kd} {T : String} {b : Bool} (h : isKd k T = some b) : PySem.W.kitOne K (.type k.name) (.type T) = some b := by
  unfold isKd at h
  split at h
  · rename_i e; subst e; cases h; cases k <;> exact kit_ty (by decide +kernel)
  split at h
  · rename_i e; subst e; cases h; cases k <;> exact kit_ty (by decide +kernel)
  split at h
  · rename_i e; subst e; cases h; cases k <;> exact kit_ty (by decide +kernel)
  split at h
  · rename_i e; subst e; cases h; cases k <;> exact kit_ty (by decide +kernel)
  split at h
  · rename_i e; subst e; cases h; cases k <;> exact kit_ty (by decide +kernel)
  split at h
  · rename_i e; subst e; cases h; cases k <;> exact kit_ty (by decide +kernel)
  · cases h
theorem kd_rep {K : PySem.W.Frag} {mg : Str → Option Value} {ρ : List Addr} {H : Hp} {S : Store} {d : D} {v : V} {k : Kd} (w : WOk K mg ρ H S) (r : Rep K mg ρ H d v) (h : kdOf S d = some k) : TyX K H v (.type k.name) := by
  cases d with
  | non => cases h; rw [rep_non r]; exact .base .non
  | bl b => cases h; rw [rep_bl r]; exact .base (.bl b)
  | int b => cases h; rw [rep_int r]; exact .base (.int b)
  | str b => cases h; rw [rep_str r]; exact .base (.str b)
  | tup xs =>
    cases h
    rw [Rep] at r
    obtain ⟨a, vs, e, t, _⟩ := r
    subst e
    rcases t with ⟨_, t⟩ | ⟨o, its, n, hk, hc, _⟩
    · exact .base (.tup t)
    · exact .kTuple hk hc
  | lst xs =>
    cases h
    rw [Rep] at r
    obtain ⟨a, vs, e, t, _⟩ := r
    subst e
    exact .base (.lst t.2)
  | scr xs =>
    cases h
    rw [Rep] at r
    obtain ⟨a, e, t⟩ := r
    subst e
    rcases t with ⟨_, t | ⟨o, t⟩⟩ | ⟨o, its, n, hk, hc, _⟩
    · exact .base (.lst t)
    · exact .base (.frz t)
    · exact .kList hk hc
  | dct ks vs =>
    cases h
    rw [Rep] at r
    obtain ⟨a, kv, vs, e, ⟨_, kvs, t, _⟩, _⟩ := r
    subst e
    rcases t with t | ⟨o, t⟩
    · exact .base (.dK t)
    · exact .fDict t
  | ptr n =>
    rw [Rep] at r
    obtain ⟨a, e, q⟩ := r
    subst e
    unfold kdOf at h
    simp only at h
    split at h
    · rename_i xs em
      cases h
      obtain ⟨vs, h1, _⟩ := w.ob n a _ q em
      exact .base (.lst h1)
    · rename_i lk ks vs em
      cases h
      obtain ⟨kvs, h1, _⟩ := w.ob n a _ q em
      cases lk with
      | true =>
        rw [if_pos rfl] at h1
        rcases h1 with t | ⟨o, t⟩
        · exact .base (.dK t)
        · exact .fDict t
      | false =>
        rw [if_neg Bool.false_ne_true] at h1
        exact .base (.dK h1)
    · cases h
  | _ => unfold kdOf at h; cases h
def semIsi : SemL := fun ds S => match ds with
  | [d, .ty T] => (match kdOf S d with
    | some k => (match isKd k T with
      | some b => .ok (.bl b) S
      | none => .bad)
    | none => .bad)
  | _ => .bad
theorem d_isi : CallD X (.builtin "isinstance") semIsi := by
  refine ⟨_, call_isi, fun Wp ρ H S ds xs Q w r p => ?_⟩
  unfold semIsi at p
  split at p
  · rename_i d T
    split at p
    · rename_i k ek
      split at p
      · rename_i b eb
        rw [RepL] at r
        obtain ⟨v, r', e, h1, h2⟩ := r
        rw [RepL] at h2
        obtain ⟨u, r2, e2, h3, h4⟩ := h2
        rw [RepL] at h4
        subst h4 e2 e
        rw [rep_ty h3]
        exact ⟨v, .ty T, _, .type T, b, rfl, .ty T, kd_rep w h1 ek, isKd_kit eb, post_ok p w mk_bl⟩
      · exact p.elim
    · exact p.elim
  · exact p.elim
/-- a tuple of types -/
def tysOf : List D → Option (List String)
  | [] => some []
  | .ty T :: r => (tysOf r).map (T :: ·)
  | _ :: _ => none
def isKds (k : Kd) : List String → Option Bool
  | [] => some false
  | T :: r => match isKd k T, isKds k r with
    | some b, some c => some (b || c)
    | _, _ => none
def semIsiT : SemL := fun ds S => match ds with
  | [d, .tup ts] => (match kdOf S d, tysOf ts with
    | some k, some Ts => (match isKds k Ts with
      | some b => .ok (.bl b) S
      | none => .bad)
    | _, _ => .bad)
  | _ => .bad
theorem tys_rep {K : PySem.W.Frag} {mg : Str → Option Value} {ρ : List Addr} {H : Hp} : ∀ {ts : List D} {Ts : List String} {vs : List V}, tysOf ts = some Ts → RepL K mg ρ H ts vs → Paired ClsV vs (Ts.map Value.type)
  | [], _, _, e, r => by cases e; rw [RepL] at r; subst r; exact .nil
  | .ty T :: ts, _, _, e, r => by
    rw [tysOf] at e
    obtain ⟨ys, e1, e2⟩ := Option.map_eq_some_iff.mp e
    subst e2
    rw [RepL] at r
    obtain ⟨v, r', e', h1, h2⟩ := r
    subst e'
    rw [rep_ty h1]
    exact .cons (.ty T) (tys_rep e1 h2)
  | .non :: _, _, _, e, _ => by cases e
  | .bl _ :: _, _, _, e, _ => by cases e
  | .int _ :: _, _, _, e, _ => by cases e
  | .str _ :: _, _, _, e, _ => by cases e
  | .cls _ :: _, _, _, e, _ => by cases e
  | .tup _ :: _, _, _, e, _ => by cases e
  | .lst _ :: _, _, _, e, _ => by cases e
  | .dct _ _ :: _, _, _, e, _ => by cases e
  | .ins _ _ _ :: _, _, _, e, _ => by cases e
  | .ptr _ :: _, _, _, e, _ => by cases e
  | .scr _ :: _, _, _, e, _ => by cases e
  | .exc _ _ _ :: _, _, _, e, _ => by cases e
  | .lam _ _ :: _, _, _, e, _ => by cases e
  | .lamc _ _ :: _, _, _, e, _ => by cases e
theorem isKds_kit {K : PySem.W.Frag} {k : Kd} : ∀ {Ts : List String} {b : Bool}, isKds k Ts = some b → PySem.W.kitAny K (.type k.name) (Ts.map Value.type) = some b
  | [], b, h => by cases h; exact kitAny_nil
  | T :: Ts, b, h => by
    rw [isKds] at h
    split at h
    · rename_i x y ex ey
      cases h
      refine kitAny_cons (isKd_kit ex) (fun q => ?_) (fun q => by rw [q]; rfl)
      rw [q, Bool.false_or]
      exact isKds_kit ey
    · cases h
theorem d_isiT : CallD X (.builtin "isinstance") semIsiT := by
  refine ⟨_, CallR.or call_isiT call_isiK, fun Wp ρ H S ds xs Q w r p => ?_⟩
  unfold semIsiT at p
  split at p
  · rename_i d ts
    split at p
    · rename_i k Ts ek et
      split at p
      · rename_i b eb
        rw [RepL] at r
        obtain ⟨v, r', e, h1, h2⟩ := r
        rw [RepL] at h2
        obtain ⟨u, r2, e2, h3, h4⟩ := h2
        rw [RepL] at h4
        subst h4 e2 e
        rw [Rep] at h3
        obtain ⟨a, vs, e3, t, rl⟩ := h3
        subst e3
        rcases t with ⟨_, t⟩ | ⟨o, its, n, hk, hc, hd, hz, hv⟩
        · exact .inl ⟨v, a, vs, _, _, b, rfl, t, tys_rep et rl, kd_rep w h1 ek, isKds_kit eb, post_ok p w mk_bl⟩
        · refine .inr ⟨v, a, o.dict, Ts.map Value.type, n, o.slots, _, b, rfl, ?_, kd_rep w h1 ek, isKds_kit eb, post_ok p w mk_bl⟩
          have e4 := ClsV.all (tys_rep et rl) hv
          rw [hk, ← e4]
          obtain ⟨c, dd, dt, sl⟩ := o
          simp only at hc hd
          subst hc hd
          simp
      · exact p.elim
    · exact p.elim
  · exact p.elim
/-! ### all, any of a list of truth values -/
def boolsOf : List D → Option (List Bool)
  | [] => some []
  | .bl b :: r => (boolsOf r).map (b :: ·)
  | _ :: _ => none
theorem bools_eq : ∀ {ds : List D} {bs : List Bool}, boolsOf ds = some bs → ds = bs.map D.bl
  | [], _, e => by cases e; rfl
  | .bl b :: r, _, e => by
    rw [boolsOf] at e
    obtain ⟨ys, e1, e2⟩ := Option.map_eq_some_iff.mp e
    subst e2
    rw [bools_eq e1]; rfl
  | .non :: _, _, e => by cases e
  | .ty _ :: _, _, e => by cases e
  | .int _ :: _, _, e => by cases e
  | .str _ :: _, _, e => by cases e
  | .cls _ :: _, _, e => by cases e
  | .tup _ :: _, _, e => by cases e
  | .lst _ :: _, _, e => by cases e
  | .dct _ _ :: _, _, e => by cases e
  | .ins _ _ _ :: _, _, e => by cases e
  | .ptr _ :: _, _, e => by cases e
  | .scr _ :: _, _, e => by cases e
  | .exc _ _ _ :: _, _, e => by cases e
  | .lam _ _ :: _, _, e => by cases e
  | .lamc _ _ :: _, _, e => by cases e
theorem repL_bools {K : PySem.W.Frag} {mg : Str → Option Value} {ρ : List Addr} {H : Hp} : ∀ {bs : List Bool} {vs : List V}, RepL K mg ρ H (bs.map D.bl) vs → vs = bs.map V.bl
  | [], _, r => by rw [List.map_nil, RepL] at r; exact r
  | b :: bs, _, r => by
    rw [List.map_cons, RepL] at r
    obtain ⟨v, r', e, h1, h2⟩ := r
    rw [e, rep_bl h1, repL_bools h2]; rfl
def semAll : SemL := fun ds S => match ds with
  | [d] => (match asL S d with
    | some xs => (match boolsOf xs with
      | some bs => .ok (.bl (bs.all id)) S
      | none => .bad)
    | none => .bad)
  | _ => .bad
theorem d_all (hc : X.calm = true) : CallD X (.builtin "all") semAll := by
  refine ⟨_, cr_all hc, fun Wp ρ H S ds xs Q w r p => ?_⟩
  unfold semAll at p
  split at p
  · rename_i d
    split at p
    · rename_i ys ey
      split at p
      · rename_i bs eb
        rw [RepL] at r
        obtain ⟨v, r', e, h1, h2⟩ := r
        rw [RepL] at h2
        subst h2 e
        obtain ⟨a, vs, e1, h3, r1⟩ := asL_rep w h1 ey
        subst e1
        rw [bools_eq eb] at r1
        rw [repL_bools r1] at h3
        exact ⟨a, bs, rfl, .inl (.inl h3), post_ok p w mk_bl⟩
      · exact p.elim
    · exact p.elim
  · exact p.elim
/-! ### list(xs), tuple(xs), int(n) -/
def semListOf : SemL := fun ds S => match ds with
  | [d] => (match asS S d with
    | some xs => .ok (.lst xs) S
    | none => .bad)
  | _ => .bad
def semTupOf : SemL := fun ds S => match ds with
  | [.tup xs] => .ok (.tup xs) S
  | [d] => (match asL S d with
    | some xs => .ok (.tup xs) S
    | none => .bad)
  | _ => .bad
theorem repL_one {K : PySem.W.Frag} {mg : Str → Option Value} {ρ : List Addr} {H : Hp} {d : D} {xs : List V} (r : RepL K mg ρ H [d] xs) : ∃ v, xs = [v] ∧ Rep K mg ρ H d v := by
  rw [RepL] at r
  obtain ⟨v, r', e, h1, h2⟩ := r
  rw [RepL] at h2
  subst h2
  exact ⟨v, e, h1⟩
theorem repL_two {K : PySem.W.Frag} {mg : Str → Option Value} {ρ : List Addr} {H : Hp} {d e : D} {xs : List V} (r : RepL K mg ρ H [d, e] xs) : ∃ v u, xs = [v, u] ∧ Rep K mg ρ H d v ∧ Rep K mg ρ H e u := by
  rw [RepL] at r
  obtain ⟨v, r', e', h1, h2⟩ := r
  obtain ⟨u, e2, h3⟩ := repL_one h2
  exact ⟨v, u, by rw [e', e2], h1, h3⟩
theorem d_listOf : CallD X (.type "list") semListOf := by
  refine ⟨_, call_list_of, fun Wp ρ H S ds xs Q w r p => ?_⟩
  unfold semListOf at p
  split at p
  · split at p
    · rename_i ys ey
      obtain ⟨v, e, h1⟩ := repL_one r
      obtain ⟨a, vs, e1, h3, r1⟩ := asS_rep w h1 ey
      exact ⟨a, vs, by rw [e, e1], h3, fun l hl => post_lst p w r1 hl⟩
    · exact p.elim
  · exact p.elim
def semInt : SemL := fun ds S => match ds with
  | [.int i] => .ok (.int i) S
  | [.bl b] => .ok (.int (if b = true then 1 else 0)) S
  | _ => .bad
theorem d_int : CallD X (.type "int") semInt := by
  refine ⟨_, call_int1, fun Wp ρ H S ds xs Q w r p => ?_⟩
  unfold semInt at p
  split at p
  · obtain ⟨v, e, h1⟩ := repL_one r
    rw [rep_int h1] at e
    exact .inl ⟨_, e, post_ok p w mk_int⟩
  · obtain ⟨v, e, h1⟩ := repL_one r
    rw [rep_bl h1] at e
    exact .inr ⟨_, e, post_ok p w mk_int⟩
  · exact p.elim
/-! ### subscripts -/
structure IxD (X : Cx) (sem : Sem2) : Prop where
  go : ∃ r : R2, IxR X r ∧ ∀ (Wp : Value → Option Addr → Hp → Prop) (ρ : List Addr) (H : Hp) (S : Store) (d e : D) (x y : V) (Q : VK), WOk X.K X.mg ρ H S → Rep X.K X.mg ρ H d x → Rep X.K X.mg ρ H e y → PostE X.K X.mg Wp ρ H Q (sem d e S) → r x y H Q
theorem IxD.or {s t : Sem2} (h : IxD X s) (h' : IxD X t) : IxD X (orS2 s t) := by
  obtain ⟨r, o, g⟩ := h.go
  obtain ⟨r', o', g'⟩ := h'.go
  refine ⟨_, o.or o', fun Wp ρ H S d e x y Q w rx ry p => ?_⟩
  unfold orS2 at p
  cases q : s d e S with
  | bad => rw [q] at p; exact .inr (g' Wp ρ H S d e x y Q w rx ry p)
  | ok a S' => rw [q] at p; exact .inl (g Wp ρ H S d e x y Q w rx ry (by rw [q]; exact p))
  | ex a S' => rw [q] at p; exact .inl (g Wp ρ H S d e x y Q w rx ry (by rw [q]; exact p))
variable {W : WX} {a b : Expr} {fa fb : EX} {pos : Pos}
theorem r_ix {sem : Sem2} (ho : IxD X sem) (ha : E X W a fa) (hb : E X W b fb) (hs : PlainIx b := by exact fun _ _ => rfl) : E X W (.Subscript a b pos) (eBin sem fa fb) := by
  obtain ⟨r, o, g⟩ := ho.go
  exact PE.imp (pe_ix o ha hb hs) fun σ H Q h => bin_imp h fun ρ S H2 d e x y w rx ry p => g _ ρ H2 S d e x y Q w rx ry p
/-- a place among n, also from behind -/
def ixSeq : Sem2 := fun d e S => match e with
  | .int i => (match d with
    | .str s => if s.length ≤ 1000000 then (match atI s.cps.toList i with
      | some c => .ok (.str ⟨#[c]⟩) S
      | none => .bad) else .bad
    | d => (match asS S d with
      | some xs => (match atI xs i with
        | some x => .ok x S
        | none => .bad)
      | none => .bad))
  | _ => .bad
theorem atI_rep {K : PySem.W.Frag} {mg : Str → Option Value} {ρ : List Addr} {H : Hp} {ds : List D} {vs : List V} {i : Int} {d : D} (r : RepL K mg ρ H ds vs) (h : atI ds i = some d) : ∃ v, atI vs i = some v ∧ Rep K mg ρ H d v := by
  unfold atI at h ⊢
  rw [← r.len]
  cases q : ixN ds.length i with
  | none => rw [q] at h; cases h
  | some j =>
    rw [q] at h
    exact r.get h
theorem d_ixSeq : IxD X ixSeq := by
  refine ⟨_, ix_seq, fun Wp ρ H S d e x y Q w rx ry p => ?_⟩
  unfold ixSeq at p
  split at p
  · rename_i i
    have hy := rep_int ry
    have go : ∀ xs, asS S d = some xs → PostE X.K X.mg Wp ρ H Q (match atI xs i with
        | some x => .ok x S
        | none => .bad) → rIx X.K x y H Q := fun xs ea p => by
      split at p
      · rename_i z ez
        obtain ⟨a, vs, e1, h3, r1⟩ := asS_rep w rx ea
        obtain ⟨v, h4, h5⟩ := atI_rep r1 ez
        rcases h3 with h3 | h3
        · exact .inl ⟨a, vs, i, v, e1, hy, h3, h4, post_ok p w h5⟩
        · exact .inr (.inl ⟨a, vs, i, v, e1, hy, h3, h4, post_ok p w h5⟩)
      · exact p.elim
    cases d with
    | str s =>
      simp only at p
      split at p
      · rename_i hl
        split at p
        · rename_i c ec
          exact .inr (.inr ⟨s, i, c, rep_str rx, hy, line_of hl, ec, post_ok p w mk_str⟩)
        · exact p.elim
      · exact p.elim
    | tup xs => exact go xs rfl p
    | lst xs => exact go xs rfl p
    | scr xs => exact go _ rfl p
    | ptr n =>
      simp only at p
      split at p
      · rename_i ys ey
        exact go ys ey p
      · exact p.elim
    | _ => exact p.elim
  · exact p.elim
end
end Z
/-! Za: zip of any two, enumerate of any (lists, tuples, texts). -/
namespace Za
open PySem PySem.Spec PyProof.Rows L2
inductive Src where
  | L (a : Addr)
  | T (a : Addr)
  | S (x : Str)
def Src.val : Src → V
  | .L a => .ref a
  | .T a => .ref a
  | .S x => .str x
def Src.At (K : PySem.W.Frag) (H : Hp) : Src → List V → Prop
  | .L a, vs => SqL K H a vs
  | .T a, vs => SqT K H a vs
  | .S x, vs => vs = x.cps.toList.map fun c => V.str ⟨#[c]⟩
def Src.It (h : Heap) (it : Addr) : Src → Nat → Prop
  | .L a, i => h.IsListIter it a i
  | .T a, i => h.IsTupleIter it a i
  | .S x, i => ∃ t, h.IsStrIter it (strIterType x) x t i
def Src.adr : Src → Option Addr
  | .L a => some a
  | .T a => some a
  | .S _ => none
theorem Src.It.obj {h : Heap} {it : Addr} {i : Nat} : ∀ {s : Src}, s.It h it i → ∃ o, h.get? it = some o ∧ ∀ v, o.data ≠ .cell v
  | .L a, st => by obtain ⟨o, e, _, d⟩ := st; exact ⟨o, e, fun v q => by rw [d] at q; cases q⟩
  | .T a, st => by obtain ⟨o, e, _, d⟩ := st; exact ⟨o, e, fun v q => by rw [d] at q; cases q⟩
  | .S x, st => by obtain ⟨t, o, e, _, d⟩ := st; exact ⟨o, e, fun v q => by rw [d] at q; cases q⟩
theorem Src.It.keep {h h' : Heap} {it : Addr} {i : Nat} (k : ∀ o, h.get? it = some o → h'.get? it = some o) : ∀ {s : Src}, s.It h it i → s.It h' it i
  | .L a, st => st.at k
  | .T a, st => st.at k
  | .S x, st => by obtain ⟨t, o, e, r⟩ := st; exact ⟨t, o, k o e, r⟩
theorem pr_get' {vs : List V} {its : List Value} (r : Vals vs its) {j : Nat} {v : Value} (e : its[j]? = some v) : ∃ x, vs[j]? = some x ∧ RelV x v := by
  have hl := r.length
  have hj := (List.getElem?_eq_some_iff.mp e).1
  have hx : vs[j]? = some (vs[j]'(by omega)) := by simp
  obtain ⟨u, h1, h2⟩ := r.get hx
  rw [e] at h1
  cases h1
  exact ⟨_, hx, h2⟩
section
variable {X : Cx} {pins : List (Addr × Obj)} {σ : L2.St} {H : Hp} {s : Shared}
theorem at_inj (I : Inv X pins σ H s) : ∀ {c : Src} {xs ys : List V}, c.At X.K H xs → c.At X.K H ys → xs = ys
  | .L a, _, _, h, h' => I.list_inj h h'
  | .T a, _, _, h, h' => I.tuple_inj h h'
  | .S x, _, _, h, h' => Eq.trans h (Eq.symm h')
/-- what a source draws at this state -/
theorem draws (I : Inv X pins σ H s) {A : Around} (hh : A.handled = none) {c : Src} {vs : List V} {i : Nat} {it : Addr} (ha : c.At X.K H vs) (hi : c.It s.heap it i) (hn : c.adr ≠ some it) :
    ∃ (fp : List Addr) (P : Nat → Value → Prop) (St : Nat → Heap → Prop), Draws X.prog X.w A it fp vs.length P St ∧ St i s.heap ∧ (∀ j v, P j v → ∃ x, vs[j]? = some x ∧ RelV x v) ∧ it ∈ fp ∧ (∀ b ∈ fp, b = it ∨ c.adr = some b) ∧ ∀ j h, St j h → c.It h it j := by
  cases c with
  | L a =>
    obtain ⟨its, rv, p, _⟩ := I.list ha
    have hl : its.toArray.size = vs.length := by rw [List.size_toArray]; exact rv.length.symm
    refine ⟨[it, a], _, _, hl ▸ Draws.list hh it a (fun e => hn (by rw [← e]; rfl)) its.toArray, ⟨hi, p.isList⟩, fun j v q => ?_, by simp, fun b hb => ?_, fun j h st => st.1⟩
    · have q : its[j]? = some v := by simpa using q
      exact pr_get' rv q
    · rcases List.mem_cons.mp hb with e | e
      · exact .inl e
      · exact .inr (by rw [List.mem_singleton.mp e]; rfl)
  | T a =>
    obtain ⟨its, rv, p, _⟩ := I.tuple ha
    have hl : its.toArray.size = vs.length := by rw [List.size_toArray]; exact rv.length.symm
    refine ⟨[it, a], _, _, hl ▸ Draws.tuple hh it a (fun e => hn (by rw [← e]; rfl)) its.toArray, ⟨hi, p⟩, fun j v q => ?_, by simp, fun b hb => ?_, fun j h st => st.1⟩
    · have q : its[j]? = some v := by simpa using q
      exact pr_get' rv q
    · rcases List.mem_cons.mp hb with e | e
      · exact .inl e
      · exact .inr (by rw [List.mem_singleton.mp e]; rfl)
  | S x =>
    obtain ⟨t, hi⟩ := hi
    have ha : vs = x.cps.toList.map fun c => V.str ⟨#[c]⟩ := ha
    have hl : x.cps.size = vs.length := by rw [ha]; simp
    refine ⟨[it], _, _, hl ▸ Draws.text hh it x t, hi, fun j v q => ?_, by simp, fun b hb => .inl (by simpa using hb), fun j h st => ⟨t, st⟩⟩
    obtain ⟨c, u, e, q⟩ := q
    subst q
    exact ⟨.str ⟨#[c]⟩, by rw [ha]; simp [e], u, rfl⟩
theorem begins (I : Inv X pins σ H s) {c : Src} {vs : List V} {u : Value} (ha : c.At X.K H vs) (r : RelV c.val u) : ∃ (o : Obj) (B : Heap → Prop), Begins u o B ∧ B s.heap ∧ ∀ h it, h.get? it = some o → c.It h it 0 := by
  cases c with
  | L a =>
    obtain ⟨its, rv, p, _⟩ := I.list ha
    obtain rfl : u = Value.ref a := r
    exact ⟨_, _, begins_list a its.toArray, p.isList, fun h it e => ⟨_, e, rfl, rfl⟩⟩
  | T a =>
    obtain ⟨its, rv, p, _⟩ := I.tuple ha
    obtain rfl : u = Value.ref a := r
    exact ⟨_, _, begins_tuple a its.toArray, p, fun h it e => ⟨_, e, rfl, rfl⟩⟩
  | S x =>
    obtain ⟨t, rfl⟩ := r
    exact ⟨_, _, begins_text x t, trivial, fun h it e => ⟨t, _, e, rfl, rfl⟩⟩
theorem adr_lt (I : Inv X pins σ H s) : ∀ {c : Src} {vs : List V} {b : Addr}, c.At X.K H vs → c.adr = some b → b < s.heap.objs.size
  | .L a, _, _, h, e => by
    cases e
    obtain ⟨its, rv, p, _⟩ := I.list h
    exact p.lt
  | .T a, _, _, h, e => by
    cases e
    obtain ⟨its, rv, ⟨o, q, _⟩, _⟩ := I.tuple h
    exact Heap.lt_size q
end
/-! ### zip -/
def ItP (K : PySem.W.Frag) (c d : Src) : L2.It :=
  ⟨fun i H => ∃ (xs ys : List V) (x y : V), c.At K H xs ∧ d.At K H ys ∧ xs[i]? = some x ∧ ys[i]? = some y,
    fun i H v H' => ∃ T x y, v = .ref T ∧ H T = none ∧ H' = upd H T (.tup [x, y]) ∧ (∀ xs, c.At K H xs → xs[i]? = some x) ∧ ∀ ys, d.At K H ys → ys[i]? = some y,
    fun i H => ∃ xs ys : List V, c.At K H xs ∧ d.At K H ys ∧ i ≤ xs.length ∧ i ≤ ys.length ∧ (i = xs.length ∨ i = ys.length)⟩
structure Apart (z TI TO i1 i2 : Addr) (c d : Src) : Prop where
  zTI : TI ≠ z
  zTO : TO ≠ z
  TITO : TI ≠ TO
  TI1 : TI ≠ i1
  TI2 : TI ≠ i2
  TO1 : TO ≠ i1
  TO2 : TO ≠ i2
  z1 : z ≠ i1
  z2 : z ≠ i2
  i12 : i1 ≠ i2
  c0 : ∀ b, c.adr = some b → b ≠ z ∧ b ≠ TI ∧ b ≠ TO ∧ b ≠ i1 ∧ b ≠ i2
  d0 : ∀ b, d.adr = some b → b ≠ z ∧ b ≠ TI ∧ b ≠ TO ∧ b ≠ i1 ∧ b ≠ i2
theorem turn_zipU {P : Program} {w : World} {K : PySem.W.Frag} {elts : List Expr} {kk : Nat} {tpos : Pos} {c d : Src} {z TI TO i1 i2 : Addr} (D : Apart z TI TO i1 i2 c d) :
    Turn P w K (.Tuple elts kk tpos) (ItP K c d) [z, TI, TO, i1, i2] z (fun i h => IsZip h z TI TO .none ∧ IsTupOf2 h TI (.ref i1) (.ref i2) ∧ (∃ x y, IsTupOf2 h TO x y) ∧ c.It h i1 i ∧ d.It h i2 i) where
  mem := by simp
  obj := fun i h st b hb => by
    obtain ⟨hz, hTI, ⟨x, y, hTO⟩, h1, h2⟩ := st
    have e' : b = z ∨ b = TI ∨ b = TO ∨ b = i1 ∨ b = i2 := by simpa using hb
    rcases e' with q | q | q | q | q
    · rw [q]; exact ⟨_, hz, fun v q => nomatch q⟩
    · rw [q]; exact ⟨_, hTI, fun v q => nomatch q⟩
    · rw [q]; exact ⟨_, hTO, fun v q => nomatch q⟩
    · rw [q]; exact h1.obj
    · rw [q]; exact h2.obj
  keep := fun i h h' st k => by
    obtain ⟨hz, hTI, ⟨x, y, hTO⟩, h1, h2⟩ := st
    exact ⟨k z (by simp) _ hz, k TI (by simp) _ hTI, ⟨x, y, k TO (by simp) _ hTO⟩, h1.keep fun o q => k i1 (by simp) o q, h2.keep fun o q => k i2 (by simp) o q⟩
  item := by
    intro X hP hw hK hc i pins s σ H E I hf st hg
    subst hP hw hK
    obtain ⟨hz, hTI, ⟨x0, y0, hTO⟩, h1, h2⟩ := st
    obtain ⟨xs, ys, x, y, hqx, hqy, hx, hy⟩ := hg
    obtain ⟨fp1, P1, St1, D1, st1, g1, m1, b1, k1⟩ := draws (A := X.A.in1) I (I.ok.hd hc) hqx h1 (fun e => (D.c0 _ e).2.2.2.1 rfl)
    obtain ⟨fp2, P2, St2, D2, st2, g2, m2, b2, k2⟩ := draws (A := X.A.in1) I (I.ok.hd hc) hqy h2 (fun e => (D.d0 _ e).2.2.2.2 rfl)
    have S : ZipSep2 z TI TO i1 i2 fp1 fp2 := by
      refine ⟨D.zTI, D.zTO, D.TITO, D.TI1, m1, fun h => ?_, fun h => ?_, D.TI2, m2, fun h => ?_, fun h => ?_, fun h => ?_, fun h => ?_⟩
      · rcases b1 _ h with e | e
        · exact D.z1 e
        · exact (D.c0 _ e).1 rfl
      · rcases b1 _ h with e | e
        · exact D.TO1 e
        · exact (D.c0 _ e).2.2.1 rfl
      · rcases b2 _ h with e | e
        · exact D.z2 e
        · exact (D.d0 _ e).1 rfl
      · rcases b2 _ h with e | e
        · exact D.TO2 e
        · exact (D.d0 _ e).2.2.1 rfl
      · rcases b2 _ h with e | e
        · exact D.i12 e
        · exact (D.d0 _ e).2.2.2.1 rfl
      · rcases b1 _ h with e | e
        · exact D.i12 e.symm
        · exact (D.c0 _ e).2.2.2.2 rfl
    have hzl : z < s.heap.objs.size := Heap.lt_size hz
    refine wpAny_pyNext_zipD2_item S D1 D2 hz hTI hTO st1 st2 (List.getElem?_eq_some_iff.mp hx).1 (List.getElem?_eq_some_iff.mp hy).1 fun u u2 h' tk p1 p2 z' TO' s1' s2' hT hsz hk => ?_
    obtain ⟨x', ex, ru⟩ := g1 i u p1
    obtain ⟨y', ey, ru2⟩ := g2 i u2 p2
    rw [hx] at ex; cases ex
    rw [hy] at ey; cases ey
    refine ⟨_, rfl, wpAny_letOwnedTupleGo_zip (s := { s with heap := h', toks := tk }) z' fun h'' z'' sb => ?_⟩
    have hT2 : h''.get? s.heap.objs.size = some { cls := .type "tuple", data := .seq #[u, u2] } := (sb.2 _ (Nat.ne_of_gt hzl)).trans hT
    have new : ObjOk X.prog X.w (upd H s.heap.objs.size (.tup [x, y])) h'' s.heap.objs.size (.tup [x, y]) :=
      ⟨by show 2 ≤ sizeLine; decide, [u, u2], .cons ru (.cons ru2 .nil), ⟨_, hT2, rfl, _, rfl⟩⟩
    have I1 : Inv X pins σ (upd H s.heap.objs.size (.tup [x, y])) { s with heap := h'', toks := tk } :=
      I.turnedNew (t' := tk) (ch := [z, TI, TO, i1, i2]) (fun c o hb q => (sb.2 c (fun q' => hb (by simp [q']))).trans (hk c o (fun q' => hb (by simp [q'])) (fun q' => hb (by simp [q'])) (fun q' => hb (by simp [q'])) (fun q' => hb (by simp [q'])) q)) hf (Nat.le_refl _) new
    refine ⟨.ref s.heap.objs.size, _, I1, rfl, ⟨_, x, y, rfl, I.hok.fresh (Nat.le_refl _), rfl, fun l hl => by rw [at_inj I hl hqx]; exact hx, fun l hl => by rw [at_inj I hl hqy]; exact hy⟩, ⟨z'', ?_, ⟨u, u2, ?_⟩, ?_, ?_⟩, fun b hcm => ?_⟩
    · exact (sb.2 _ D.zTI).trans (hk _ _ D.zTI D.TITO D.TI1 D.TI2 hTI)
    · exact (sb.2 _ D.zTO).trans TO'
    · exact (k1 _ _ s1').keep fun o q => (sb.2 _ (Ne.symm D.z1)).trans q
    · exact (k2 _ _ s2').keep fun o q => (sb.2 _ (Ne.symm D.z2)).trans q
    · have hlt : b < s.heap.objs.size := by
        have e' : b = z ∨ b = TI ∨ b = TO ∨ b = i1 ∨ b = i2 := by simpa using hcm
        rcases e' with q | q | q | q | q
        · rw [q]; exact hzl
        · rw [q]; exact Heap.lt_size hTI
        · rw [q]; exact Heap.lt_size hTO
        · rw [q]; obtain ⟨_, e1, _⟩ := h1.obj; exact Heap.lt_size e1
        · rw [q]; obtain ⟨_, e1, _⟩ := h2.obj; exact Heap.lt_size e1
      rw [upd_ne (Nat.ne_of_lt hlt)]
      exact (hf b hcm).1
  done := by
    intro X hP hw hK hc i pins s σ H E I hf st hg
    subst hP hw hK
    obtain ⟨hz, hTI, ⟨x0, y0, hTO⟩, h1, h2⟩ := st
    obtain ⟨xs, ys, hqx, hqy, hl1, hl2, hend⟩ := hg
    obtain ⟨fp1, P1, St1, D1, st1, g1, m1, b1, k1⟩ := draws (A := X.A.in1) I (I.ok.hd hc) hqx h1 (fun e => (D.c0 _ e).2.2.2.1 rfl)
    obtain ⟨fp2, P2, St2, D2, st2, g2, m2, b2, k2⟩ := draws (A := X.A.in1) I (I.ok.hd hc) hqy h2 (fun e => (D.d0 _ e).2.2.2.2 rfl)
    have S : ZipSep2 z TI TO i1 i2 fp1 fp2 := by
      refine ⟨D.zTI, D.zTO, D.TITO, D.TI1, m1, fun h => ?_, fun h => ?_, D.TI2, m2, fun h => ?_, fun h => ?_, fun h => ?_, fun h => ?_⟩
      · rcases b1 _ h with e | e
        · exact D.z1 e
        · exact (D.c0 _ e).1 rfl
      · rcases b1 _ h with e | e
        · exact D.TO1 e
        · exact (D.c0 _ e).2.2.1 rfl
      · rcases b2 _ h with e | e
        · exact D.z2 e
        · exact (D.d0 _ e).1 rfl
      · rcases b2 _ h with e | e
        · exact D.TO2 e
        · exact (D.d0 _ e).2.2.1 rfl
      · rcases b2 _ h with e | e
        · exact D.i12 e
        · exact (D.d0 _ e).2.2.2.1 rfl
      · rcases b1 _ h with e | e
        · exact D.i12 e.symm
        · exact (D.c0 _ e).2.2.2.2 rfl
    exact wpAny_pyNext_zipD2_end S D1 D2 hz hTI hTO st1 st2 hl1 hl2 hend fun h' tk hk => ⟨rfl, I.turnedL (t' := tk) (ch := [z, TI, TO, i1, i2]) (fun c o hb q =>
      hk c o (fun q' => hb (by simp [q'])) (fun q' => hb (by simp [q'])) (fun q' => hb (by simp [q'])) (fun q' => hb (by simp [q'])) q) hf⟩
  self := fun A i s Q E st h => wpAny_pyIter_zip st.1 h
def iZipU (K : PySem.W.Frag) (ta : TA) : TI := fun σ H R => ta σ H fun vs H1 => ∃ (c d : Src) (xs ys : List V), vs = [c.val, d.val] ∧ c.At K H1 xs ∧ d.At K H1 ys ∧ R (ItP K c d) H1
theorem pi_zipU {X : Cx} {e e2 : Expr} {ta : TA} {p pos tpos : Pos} {elts : List Expr} {kk : Nat} (hg : Gl X "zip") (hm : X.mg "zip" = none) (ha : PA X [e, e2] ta)
    (hs : starEach [e, e2] X.env = (false, eval e X.env) :: starEach [e2] X.env := by rfl) (hpl : (backTo pos (starEach [e2] X.env)).any (·.1) = false := by rfl) :
    PI X (.Tuple elts kk tpos) (.Call (.Name "zip" p) [e, e2] [] pos) (iZipU X.K ta) := by
  refine ⟨fun pins s σ H R I h => ?_⟩
  refine Call_ (ld_blt I hg hm PyProof.Rows.boot_zip (PyProof.Rows.callWith_type1 (thn (ha.run pos pins s σ H _ I h) fun us s1 ⟨vs, H1, I1, r1, q1⟩ => ?_) hs hpl))
  obtain ⟨c, d, xs, ys, ex, hc, hd, q⟩ := q1
  subst ex
  cases r1 with
  | cons r rr =>
    cases rr with
    | cons r' rr =>
      cases rr
      obtain ⟨o1, B1, bg1, hB1, k1⟩ := begins I1 hc r
      obtain ⟨o2, B2, bg2, hB2, k2⟩ := begins I1 hd r'
      refine zip_begins2 bg1 bg2 hB1 hB2 fun h' hz hTI hTO g1 g2 hsz hk => wpAny_pyIter_zip hz ?_
      have I2 : Inv X pins σ H1 { s1 with heap := h' } := I1.kept (t' := s1.toks) hk
      have far : ∀ (cc : Src) (zs : List V), cc.At X.K H1 zs → ∀ b, cc.adr = some b → b ≠ s1.heap.objs.size + 4 ∧ b ≠ s1.heap.objs.size + 2 ∧ b ≠ s1.heap.objs.size + 3 ∧ b ≠ s1.heap.objs.size ∧ b ≠ s1.heap.objs.size + 1 := fun cc zs hz b e => by
        have := adr_lt I1 hz e
        refine ⟨?_, ?_, ?_, ?_, ?_⟩ <;> exact fun q => by
          rw [q] at this
          first
            | exact absurd this (Nat.lt_irrefl _)
            | exact absurd (Nat.lt_of_le_of_lt (Nat.le_add_right _ _) this) (Nat.lt_irrefl _)
      have hap : Apart (s1.heap.objs.size + 4) (s1.heap.objs.size + 2) (s1.heap.objs.size + 3) s1.heap.objs.size (s1.heap.objs.size + 1) c d := by
        refine ⟨?_, ?_, ?_, ?_, ?_, ?_, ?_, ?_, ?_, ?_, far c xs hc, far d ys hd⟩ <;> (intro q; have q : (_ : Nat) = _ := q; omega)
      refine ⟨s1.heap.objs.size + 4, [s1.heap.objs.size + 4, s1.heap.objs.size + 2, s1.heap.objs.size + 3, s1.heap.objs.size, s1.heap.objs.size + 1], _, _, H1, rfl, I2, turn_zipU hap, ⟨hz, hTI, ⟨_, _, hTO⟩, k1 _ _ g1, k2 _ _ g2⟩, fun b hcm => ?_, q⟩
      have e' : b = s1.heap.objs.size + 4 ∨ b = s1.heap.objs.size + 2 ∨ b = s1.heap.objs.size + 3 ∨ b = s1.heap.objs.size ∨ b = s1.heap.objs.size + 1 := by simpa using hcm
      have hle : s1.heap.objs.size ≤ b := by
        rcases e' with z | z | z | z | z
        · rw [z]; exact Nat.le_add_right _ _
        · rw [z]; exact Nat.le_add_right _ _
        · rw [z]; exact Nat.le_add_right _ _
        · rw [z]; exact Nat.le_refl _
        · rw [z]; exact Nat.le_add_right _ _
      exact I1.fpOk hle (I1.hok.fresh hle)
/-! ### enumerate -/
set_option maxHeartbeats 1000000 in
theorem meets_enumB1 {v : Value} {o : Obj} {B : Heap → Prop} (bg : Begins v o B) :
    Meets (Builtin.«enumerate.__new__» ⟨[.type "enumerate", v], []⟩) (fun _ R s => B s.heap ∧
      R (.ok (.ret (.ref (s.heap.push o).objs.size))) { s with heap := (s.heap.push o).push { cls := .type "enumerate", data := .fields #[.none, .bool false, .ref s.heap.objs.size, rawInt 0, .none, .none] } }) :=
  .of_wp fun prog w A R s h => by
    obtain ⟨hp, g, d, tk, os⟩ := s; obtain ⟨h1, h⟩ := h
    have hsub := sub_enumerate
    have q1 : ∀ {A' : Around} {E : Value → Shared → Prop} {Q : Value → Shared → Prop}, Q (.ref hp.objs.size) ⟨(hp.push o), g, d, tk, os⟩ → wpAny (model prog w) A' (pyIter v) Q E ⟨hp, g, d, tk, os⟩ :=
      fun q => bg.iter prog w _ _ ⟨hp, g, d, tk, os⟩ _ h1 q
    wp_walk
    refine wpAny_stack_any fun st => wpAny_pure ?_
    split
    · rename_i c _ _ _ _ _
      cases (c == Value.type "enumerate")
      · wp_walk using q1
        exact ⟨_, rfl, h⟩
      · wp_walk using q1
        exact ⟨_, rfl, h⟩
    · wp_walk using q1
      exact ⟨_, rfl, h⟩
theorem enum_begins1 {prog : Program} {w : World} {A : Around} {E : Value → Shared → Prop} {s : Shared} {v : Value} {o : Obj} {B : Heap → Prop} {Q : Value → Shared → Prop} (bg : Begins v o B) (h1 : B s.heap)
    (h : ∀ h', IsEnum h' (s.heap.objs.size + 1) s.heap.objs.size 0 .none → h'.get? s.heap.objs.size = some o → h'.objs.size = s.heap.objs.size + 2 →
      (∀ b o, s.heap.get? b = some o → h'.get? b = some o) → Q (.ref (s.heap.objs.size + 1)) { s with heap := h' }) :
    wpAny (model prog w) A (call (.type "enumerate") [v]) Q E s := by
  refine callType_new F.called_enumerate (by decide) (F.typeCall_enumerate_1 _) (F.newCall_enumerate_1 _) (fun obj => F.args_object_init_2 obj _) F.entry_enumerate_new
    (meets_enumB1 bg) ⟨h1, ?_⟩
  have hz : (s.heap.push o).objs.size = s.heap.objs.size + 1 := Heap.size_push ..
  show _ ∧ _
  rw [hz]
  have he : IsEnum ((s.heap.push o).push { cls := .type "enumerate", data := .fields #[.none, .bool false, .ref s.heap.objs.size, rawInt 0, .none, .none] }) (s.heap.objs.size + 1) s.heap.objs.size 0 .none := by
    have := Heap.get?_push_size (s.heap.push o) (o := { cls := .type "enumerate", data := .fields #[.none, .bool false, .ref s.heap.objs.size, rawInt 0, .none, .none] }) rfl
    rw [hz] at this; exact this
  exact ⟨⟨_, he, rfl⟩, h _ he (Heap.get?_push_of_some _ (Heap.get?_push_size _ bg.free)) (by rw [Heap.size_push, hz]) fun b o x => Heap.get?_push_of_some _ (Heap.get?_push_of_some _ x)⟩
def ItE (K : PySem.W.Frag) (c : Src) : L2.It :=
  ⟨fun i H => ∃ (xs : List V) (x : V), c.At K H xs ∧ xs[i]? = some x,
    fun i H v H' => ∃ T x, v = .ref T ∧ H T = none ∧ H' = upd H T (.tup [.int (i : Nat), x]) ∧ ∀ xs, c.At K H xs → xs[i]? = some x,
    fun i H => ∃ xs : List V, c.At K H xs ∧ i = xs.length⟩
theorem turn_enumU {P : Program} {w : World} {K : PySem.W.Frag} {elts : List Expr} {kk : Nat} {tpos : Pos} {c : Src} {e it : Addr} (hne : e ≠ it) (hc1 : c.adr ≠ some e) (hc2 : c.adr ≠ some it) :
    Turn P w K (.Tuple elts kk tpos) (ItE K c) [e, it] e (fun i h => (∃ old, IsEnum h e it ((i : Nat) : Int) old) ∧ c.It h it i) where
  mem := by simp
  obj := fun i h st b hb => by
    obtain ⟨⟨old, he⟩, h1⟩ := st
    have e' : b = e ∨ b = it := by simpa using hb
    rcases e' with z | z
    · rw [z]; exact ⟨_, he, fun v q => nomatch q⟩
    · rw [z]; exact h1.obj
  keep := fun i h h' st k => let ⟨⟨old, he⟩, hi⟩ := st; ⟨⟨old, k e (by simp) _ he⟩, hi.keep fun o q => k it (by simp) o q⟩
  item := by
    intro X hP hw hK hc i pins s σ H E I hf st hg
    subst hP hw hK
    obtain ⟨⟨old, he⟩, hit⟩ := st
    obtain ⟨xs, x, hq, hx⟩ := hg
    obtain ⟨fp, P1, St1, D1, st1, g1, m1, b1, k1⟩ := draws (A := X.A.in1) I (I.ok.hd hc) hq hit hc2
    have hel : e < s.heap.objs.size := Heap.lt_size he
    have hil : it < s.heap.objs.size := by obtain ⟨_, q, _⟩ := hit.obj; exact Heap.lt_size q
    have hef : e ∉ fp := fun h => by
      rcases b1 _ h with q | q
      · exact hne q
      · exact hc1 q
    refine wpAny_pyNext_enum_itemD D1 he st1 (List.getElem?_eq_some_iff.mp hx).1 hne hef fun u h' tk p ho hit' hT hsz hk => ?_
    obtain ⟨x', ex, ru⟩ := g1 i u p
    rw [hx] at ex; cases ex
    refine ⟨_, rfl, wpAny_letOwnedTupleGo_enum (s := { s with heap := h', toks := tk + 1 }) ho fun h'' he' sb => ?_⟩
    have hT2 : h''.get? s.heap.objs.size = some { cls := .type "tuple", data := .seq #[.int i tk, u] } := (sb.2 _ (Nat.ne_of_gt hel)).trans hT
    have new : ObjOk X.prog X.w (upd H s.heap.objs.size (.tup [.int (i : Nat), x])) h'' s.heap.objs.size (.tup [.int (i : Nat), x]) :=
      ⟨by show 2 ≤ sizeLine; decide, [.int i tk, u], .cons ⟨_, rfl⟩ (.cons ru .nil), ⟨_, hT2, rfl, _, rfl⟩⟩
    have I1 : Inv X pins σ (upd H s.heap.objs.size (.tup [.int (i : Nat), x])) { s with heap := h'', toks := tk + 1 } :=
      I.turnedNew (ch := [e, it]) (fun b ob hb q => (sb.2 b (fun z => hb (by simp [z]))).trans (hk b ob (fun z => hb (by simp [z])) (fun z => hb (by simp [z])) q)) hf (Nat.le_refl _) new
    refine ⟨.ref s.heap.objs.size, _, I1, rfl, ⟨_, x, rfl, I.hok.fresh (Nat.le_refl _), rfl, fun ys hy => by rw [at_inj I hy hq]; exact hx⟩, ⟨⟨u, ?_⟩, (k1 _ _ hit').keep fun o q => (sb.2 it (Ne.symm hne)).trans q⟩, fun b hb => ?_⟩
    · have e1 : ((i + 1 : Nat) : Int) = (i : Int) + 1 := by omega
      rw [e1]; exact he'
    · have hb' : b < s.heap.objs.size := by
        have e' : b = e ∨ b = it := by simpa using hb
        rcases e' with z | z
        · rw [z]; exact hel
        · rw [z]; exact hil
      rw [upd_ne (Nat.ne_of_lt hb')]
      exact (hf b hb).1
  done := by
    intro X hP hw hK hc i pins s σ H E I hf st hg
    subst hP hw hK
    obtain ⟨⟨old, he⟩, hit⟩ := st
    obtain ⟨xs, hq, hx⟩ := hg
    obtain ⟨fp, P1, St1, D1, st1, g1, m1, b1, k1⟩ := draws (A := X.A.in1) I (I.ok.hd hc) hq hit hc2
    obtain ⟨f0, f1, f2, f3, f4, f5⟩ := hf it (by simp)
    subst hx
    exact wpAny_pyNext_enum_endD D1 he st1 fun h' eb => ⟨rfl, I.turned (t' := s.toks) (fun b o hb q => eb b o hb q) f0 f1 f3 f4 f5⟩
  self := fun A i s Q E st h => let ⟨⟨_, he⟩, _⟩ := st; wpAny_pyIter_enum he h
def iEnumU (K : PySem.W.Frag) (ta : TA) : TI := fun σ H R => ta σ H fun vs H1 => ∃ (c : Src) (xs : List V), vs = [c.val] ∧ c.At K H1 xs ∧ R (ItE K c) H1
theorem pi_enumU {X : Cx} {e : Expr} {ta : TA} {p pos tpos : Pos} {elts : List Expr} {kk : Nat} (hg : Gl X "enumerate") (hm : X.mg "enumerate" = none) (ha : PA X [e] ta) (hs : starEach [e] X.env = [(false, eval e X.env)] := by rfl) :
    PI X (.Tuple elts kk tpos) (.Call (.Name "enumerate" p) [e] [] pos) (iEnumU X.K ta) := by
  refine ⟨fun pins s σ H R I h => ?_⟩
  refine Call_ (ld_blt I hg hm boot_enumerate (PyProof.Rows.callWith_type1 (thn (ha.run pos pins s σ H _ I h) fun us s1 ⟨vs, H1, I1, r1, q1⟩ => ?_) hs rfl))
  obtain ⟨c, xs, ex, hc, q⟩ := q1
  subst ex
  cases r1 with
  | cons r rr =>
    cases rr
    obtain ⟨o1, B1, bg1, hB1, k1⟩ := begins I1 hc r
    refine enum_begins1 bg1 hB1 fun h' he g1 hsz hk => wpAny_pyIter_enum he ?_
    have I2 : Inv X pins σ H1 { s1 with heap := h' } := I1.kept (t' := s1.toks) hk
    have far : ∀ b, c.adr = some b → b < s1.heap.objs.size := fun b e => adr_lt I1 hc e
    refine ⟨s1.heap.objs.size + 1, [s1.heap.objs.size + 1, s1.heap.objs.size], _, _, H1, rfl, I2, turn_enumU (Nat.succ_ne_self _) (fun e => absurd (Nat.lt_of_le_of_lt (Nat.le_add_right _ _) (far _ e)) (Nat.lt_irrefl _)) (fun e => absurd (far _ e) (Nat.lt_irrefl _)), ⟨⟨.none, he⟩, k1 _ _ g1⟩, fun b hb => ?_, q⟩
    have e' : b = s1.heap.objs.size + 1 ∨ b = s1.heap.objs.size := by simpa using hb
    have hle : s1.heap.objs.size ≤ b := by
      rcases e' with z | z
      · rw [z]; exact Nat.le_add_right _ _
      · rw [z]; exact Nat.le_refl _
    exact I1.fpOk hle (I1.hok.fresh hle)
end Za
/-! Z6: writes, methods of lists and texts, dicts, slices. -/
namespace Z
open PySem PySem.Spec L2
/-! ### a handle's thing written -/
section
variable {K : PySem.W.Frag} {mg : Str → Option Value} {ρ : List Addr} {H : Hp} {S : Store}
theorem Ext.put {p : Addr} {o : HO} (hp : p ∈ ρ) : Ext ρ H ρ (upd H p o) := ⟨⟨[], by simp⟩, fun a h n => absurd h n, fun a u n h => .inl (by rw [upd_ne (fun q => n (by rw [q]; exact hp))]; exact h)⟩
theorem nd_eq {α : Type} : ∀ {l : List α} {i j : Nat} {a : α}, l.Nodup → l[i]? = some a → l[j]? = some a → i = j
  | [], _, _, _, _, h, _ => by simp at h
  | x :: l, 0, 0, _, _, _, _ => rfl
  | x :: l, 0, j + 1, a, hn, h1, h2 => by
    simp at h1 h2
    exact absurd (List.mem_of_getElem? h2) (by rw [← h1]; exact (List.nodup_cons.mp hn).1)
  | x :: l, i + 1, 0, a, hn, h1, h2 => by
    simp at h1 h2
    exact absurd (List.mem_of_getElem? h1) (by rw [← h2]; exact (List.nodup_cons.mp hn).1)
  | x :: l, i + 1, j + 1, a, hn, h1, h2 => by
    simp only [List.getElem?_cons_succ] at h1 h2
    rw [nd_eq (List.nodup_cons.mp hn).2 h1 h2]
theorem WOk.put (w : WOk K mg ρ H S) {n : Nat} {p : Addr} {o : HO} {m : MO} (hn : ρ[n]? = some p) (hm : MRep K mg ρ (upd H p o) p m) : WOk K mg ρ (upd H p o) (S.set n m) := by
  have hp : p ∈ ρ := List.mem_of_getElem? hn
  refine ⟨by simp [w.len], w.nd, fun a ha => ?_, fun j a m' e1 e2 => ?_⟩
  · by_cases q : a = p
    · rw [q, upd_same]; simp
    · rw [upd_ne q]; exact w.tr a ha
  · by_cases q : j = n
    · subst q
      rw [hn] at e1; cases e1
      have hl : j < S.length := by rw [← w.len]; exact (List.getElem?_eq_some_iff.mp hn).1
      rw [List.getElem?_set_self hl] at e2; cases e2
      exact hm
    · rw [List.getElem?_set_ne (Ne.symm q)] at e2
      have hap : a ≠ p := fun e => by
        subst e
        exact q (nd_eq w.nd e1 hn)
      exact MRep.ext (Ext.put hp) (upd_ne hap) (w.ob j a m' e1 e2)
theorem Ext.putL {p : Addr} {o : HO} {n : Nat} (hn : ρ[n]? = some p) : Ext ρ H ρ (upd H p o) := Ext.put (List.mem_of_getElem? hn)
/-- the list at a handle -/
theorem ptr_lst (w : WOk K mg ρ H S) {n : Nat} {v : V} {xs : List D} (r : Rep K mg ρ H (.ptr n) v) (e : S[n]? = some (.lst xs)) : ∃ a vs, v = .ref a ∧ ρ[n]? = some a ∧ H a = some (.lst vs) ∧ RepL K mg ρ H xs vs := by
  rw [Rep] at r
  obtain ⟨a, e1, q⟩ := r
  obtain ⟨vs, h1, h2⟩ := w.ob n a _ q e
  exact ⟨a, vs, e1, q, h1, h2⟩
theorem ptr_dct (w : WOk K mg ρ H S) {n : Nat} {v : V} {ks xs : List D} (r : Rep K mg ρ H (.ptr n) v) (e : S[n]? = some (.dct false ks xs)) : ∃ a kvs, v = .ref a ∧ ρ[n]? = some a ∧ H a = some (.dK kvs) ∧ RepL K mg ρ H ks (kvs.map fun p => kV p.1) ∧ RepL K mg ρ H xs (kvs.map (·.2)) := by
  rw [Rep] at r
  obtain ⟨a, e1, q⟩ := r
  obtain ⟨kvs, h1, h2, h3⟩ := w.ob n a _ q e
  rw [if_neg Bool.false_ne_true] at h1
  exact ⟨a, kvs, e1, q, h1, h2, h3⟩
end
/-! ### methods of lists and texts -/
abbrev SemM := D → SemL
def eMet (ty : Store → D → Bool) (sem : SemM) (fo : EX) (fa : AX) : EX := fun sl S => (fo sl S).bind fun d S1 => if ty S1 d = true then (fa sl S1).bind fun ds S2 => sem d ds S2 else .bad
section
variable {X : Cx} {W : WX}
structure MtD (X : Cx) (id : String) (sem : SemM) : Prop where
  go : ∃ r : V → List V → Hp → VK → Prop, MtR X id r ∧ ∀ (Wp : Value → Option Addr → Hp → Prop) (ρ : List Addr) (H : Hp) (S : Store) (d : D) (ds : List D) (x : V) (xs : List V) (Q : VK), WOk X.K X.mg ρ H S → Rep X.K X.mg ρ H d x → RepL X.K X.mg ρ H ds xs → PostE X.K X.mg Wp ρ H Q (sem d ds S) → r x xs H Q
theorem MtD.or {id : String} {s t : SemM} (h : MtD X id s) (h' : MtD X id t) : MtD X id (fun d => orSL (s d) (t d)) := by
  obtain ⟨r, o, g⟩ := h.go
  obtain ⟨r', o', g'⟩ := h'.go
  refine ⟨_, MtR.or o o', fun Wp ρ H S d ds x xs Q w rx rl p => ?_⟩
  unfold orSL at p
  cases q : s d ds S with
  | bad => rw [q] at p; exact .inr (g' Wp ρ H S d ds x xs Q w rx rl p)
  | ok a S' => rw [q] at p; exact .inl (g Wp ρ H S d ds x xs Q w rx rl (by rw [q]; exact p))
  | ex a S' => rw [q] at p; exact .inl (g Wp ρ H S d ds x xs Q w rx rl (by rw [q]; exact p))
variable {o e : Expr} {es : List Expr} {fo fe : EX} {fa : AX} {apos cpos pos : Pos} {name : Str} {T id : String} {sem : SemM} {ty : Store → D → Bool}
/-! #### lists -/
def semAppend : SemM := fun d ds S => match d, ds with
  | .ptr n, [e] => (match S[n]? with
    | some (.lst xs) => if xs.length < 1000000 then .ok .non (S.set n (.lst (xs ++ [e]))) else .bad
    | _ => .bad)
  | _, _ => .bad
/-! #### texts -/
def strsOf : List D → Option (List Str)
  | [] => some []
  | .str s :: r => (strsOf r).map (s :: ·)
  | _ :: _ => none
def semJoin : SemM := fun d ds S => match d, ds with
  | .str a, [e] => (match asS S e with
    | some xs => (match strsOf xs with
      | some ys => if (ys.map (·.length)).sum + ys.length * a.length ≤ 1000000 then .ok (.str (Txt.join a ys)) S else .bad
      | none => .bad)
    | none => .bad)
  | _, _ => .bad
end
end Z
/-! Z7: dicts, stores into lists and dicts, slices. -/
namespace Z
open PySem PySem.Spec L2
/-! ### dicts as data -/
def kD : Key → D
  | .inl i => .int i
  | .inr s => .str s
def keyD : D → Option Key
  | .int i => some (.inl i)
  | .str s => some (.inr s)
  | _ => none
@[simp] theorem keyD_kD (k : Key) : keyD (kD k) = some k := by cases k <;> rfl
theorem keyD_eq {d : D} {k : Key} (h : keyD d = some k) : d = kD k := by
  cases d with
  | int i => cases h; rfl
  | str i => cases h; rfl
  | _ => cases h
def getK : List D → List D → Key → Option D
  | k :: ks, v :: vs, y => if keyD k = some y then some v else getK ks vs y
  | _, _, _ => none
def hasK (ks : List D) (y : Key) : Bool := ks.any fun k => decide (keyD k = some y)
def putV : List D → List D → Key → D → List D
  | k :: ks, v :: vs, y, d => (if keyD k = some y then d else v) :: putV ks vs y d
  | _, _, _, _ => []
def putKs (ks : List D) (y : Key) : List D := if hasK ks y = true then ks else ks ++ [kD y]
def putVs (ks vs : List D) (y : Key) (d : D) : List D := if hasK ks y = true then putV ks vs y d else vs ++ [d]
def asD (S : Store) : D → Option (List D × List D)
  | .dct ks vs => some (ks, vs)
  | .ptr n => match S[n]? with
    | some (.dct _ ks vs) => some (ks, vs)
    | _ => none
  | _ => none
section
variable {K : PySem.W.Frag} {mg : Str → Option Value} {ρ : List Addr} {H : Hp} {S : Store}
theorem rep_kV {d : D} {k : Key} (r : Rep K mg ρ H d (kV k)) : d = kD k := by
  cases d with
  | non => rw [Rep] at r; cases k <;> cases r
  | bl b => rw [Rep] at r; cases k <;> cases r
  | int i => rw [Rep] at r; cases k <;> cases r; rfl
  | str i => rw [Rep] at r; cases k <;> cases r; rfl
  | ty i => rw [Rep] at r; cases k <;> cases r
  | cls c => rw [Rep] at r; obtain ⟨_, _, e⟩ := r; cases k <;> cases e
  | tup xs => rw [Rep] at r; obtain ⟨_, _, e, _⟩ := r; cases k <;> cases e
  | lst xs => rw [Rep] at r; obtain ⟨_, _, e, _⟩ := r; cases k <;> cases e
  | dct xs ys => rw [Rep] at r; obtain ⟨_, _, _, e, _⟩ := r; cases k <;> cases e
  | ins c ns vs => rw [Rep] at r; obtain ⟨_, _, _, _, e, _⟩ := r; cases k <;> cases e
  | ptr n => rw [Rep] at r; obtain ⟨_, e, _⟩ := r; cases k <;> cases e
  | scr xs => rw [Rep] at r; obtain ⟨_, e, _⟩ := r; cases k <;> cases e
  | exc c ns vs => rw [Rep] at r; obtain ⟨_, _, _, _, e, _⟩ := r; cases k <;> cases e
  | lam T c => rw [Rep] at r; obtain ⟨_, e, _⟩ := r; cases k <;> cases e
  | lamc T c => rw [Rep] at r; obtain ⟨_, _, _, e, _⟩ := r; cases k <;> cases e
theorem mk_kV (k : Key) : Rep K mg ρ H (kD k) (kV k) := by cases k <;> rw [kD, kV, Rep]
theorem rep_keyD {d : D} {k : Key} {v : V} (r : Rep K mg ρ H d v) (h : keyD d = some k) : v = kV k := by
  rw [keyD_eq h] at r
  cases k with
  | inl i => exact rep_int r
  | inr i => exact rep_str r
theorem repK : ∀ {kvs : List (Key × V)} {ks : List D}, RepL K mg ρ H ks (kvs.map fun p => kV p.1) → ks = kvs.map fun p => kD p.1
  | [], ks, r => by
    cases ks with
    | nil => rfl
    | cons d ks => rw [RepL] at r; obtain ⟨_, _, e, _⟩ := r; cases e
  | p :: kvs, ks, r => by
    cases ks with
    | nil => rw [RepL] at r; cases r
    | cons d ks =>
      rw [RepL] at r
      obtain ⟨v, r', e, h1, h2⟩ := r
      rw [List.map_cons] at e
      injection e with e1 e2
      subst e1 e2
      rw [List.map_cons, rep_kV h1, repK h2]
theorem mkK : ∀ (kvs : List (Key × V)), RepL K mg ρ H (kvs.map fun p => kD p.1) (kvs.map fun p => kV p.1)
  | [] => RepL.nil
  | p :: kvs => RepL.cons (mk_kV p.1) (mkK kvs)
theorem asD_rep {d : D} {v : V} {p : List D × List D} (w : WOk K mg ρ H S) (r : Rep K mg ρ H d v) (h : asD S d = some p) : ∃ a kvs, v = .ref a ∧ Rd H a (.dK kvs) ∧ p.1 = kvs.map (fun p => kD p.1) ∧ RepL K mg ρ H p.2 (kvs.map (·.2)) := by
  cases d with
  | dct ks vs =>
    unfold asD at h
    cases h
    rw [Rep] at r
    obtain ⟨a, kv, vs', e, ⟨_, kvs, t, e1, e2⟩, r1, r2⟩ := r
    subst e1 e2
    exact ⟨a, kvs, e, t, repK r1, r2⟩
  | ptr n =>
    unfold asD at h
    simp only at h
    rw [Rep] at r
    obtain ⟨a, e, q⟩ := r
    split at h
    · rename_i lk ks vs em
      cases h
      obtain ⟨kvs, h1, r1, r2⟩ := w.ob n a _ q em
      refine ⟨a, kvs, e, ?_, repK r1, r2⟩
      cases lk with
      | true => rw [if_pos rfl] at h1; exact h1
      | false => rw [if_neg Bool.false_ne_true] at h1; exact .inl h1
    · cases h
  | _ => unfold asD at h; cases h
theorem getK_rep {y : Key} : ∀ {kvs : List (Key × V)} {ds : List D}, RepL K mg ρ H ds (kvs.map (·.2)) → (∀ d, getK (kvs.map fun p => kD p.1) ds y = some d → ∃ v, valV kvs y = some v ∧ Rep K mg ρ H d v) ∧ (valV kvs y).isSome = hasK (kvs.map fun p => kD p.1) y
  | [], ds, r => ⟨fun d h => by simp [getK] at h, by rw [valV_nil]; rfl⟩
  | p :: kvs, ds, r => by
    cases ds with
    | nil => rw [RepL] at r; cases r
    | cons d ds =>
      rw [RepL] at r
      obtain ⟨v, r', e, h1, h2⟩ := r
      rw [List.map_cons] at e
      injection e with e1 e2
      subst e1 e2
      obtain ⟨i1, i2⟩ := getK_rep (y := y) (kvs := kvs) h2
      by_cases q : p.1 = y
      · refine ⟨fun d' h => ?_, ?_⟩
        · rw [List.map_cons, getK, keyD_kD, q, if_pos rfl] at h
          cases h
          exact ⟨p.2, valV_pos q, h1⟩
        · rw [valV_pos q, List.map_cons, hasK, List.any_cons, keyD_kD, q]
          simp
      · refine ⟨fun d' h => ?_, ?_⟩
        · rw [List.map_cons, getK, keyD_kD, if_neg (fun z => q (Option.some.inj z))] at h
          obtain ⟨u, e3, r3⟩ := i1 d' h
          exact ⟨u, by rw [valV_neg q]; exact e3, r3⟩
        · rw [valV_neg q, List.map_cons, hasK, List.any_cons, keyD_kD, decide_eq_false (fun z => q (Option.some.inj z)), Bool.false_or]
          exact i2
theorem anyK (y : Key) (kvs : List (Key × V)) : (kvs.any fun kv => decide (kv.1 = y)) = hasK (kvs.map fun p => kD p.1) y := by
  induction kvs with
  | nil => rfl
  | cons p kvs ih =>
    rw [List.any_cons, List.map_cons, hasK, List.any_cons, keyD_kD]
    rw [show (kvs.any fun kv => decide (kv.1 = y)) = (List.map (fun p : Key × V => kD p.1) kvs).any (fun k => decide (keyD k = some y)) from ih]
    congr 1
    simp
theorem putV_rep {y : Key} {d : D} {v : V} (h : Rep K mg ρ H d v) : ∀ {kvs : List (Key × V)} {ds : List D}, RepL K mg ρ H ds (kvs.map (·.2)) → RepL K mg ρ H (putV (kvs.map fun p => kD p.1) ds y d) ((kvs.map fun kv => if kv.1 = y then (kv.1, v) else kv).map (·.2))
  | [], ds, r => by
    rw [List.map_nil, List.map_nil, List.map_nil]
    cases ds with
    | nil => exact RepL.nil
    | cons d ds => rw [RepL] at r; obtain ⟨_, _, e, _⟩ := r; cases e
  | p :: kvs, ds, r => by
    cases ds with
    | nil => rw [RepL] at r; cases r
    | cons d' ds =>
      rw [RepL] at r
      obtain ⟨v', r', e, h1, h2⟩ := r
      rw [List.map_cons] at e
      injection e with e1 e2
      subst e1 e2
      rw [List.map_cons, List.map_cons, List.map_cons, putV, keyD_kD]
      refine RepL.cons ?_ (putV_rep h h2)
      by_cases q : p.1 = y
      · rw [if_pos q, if_pos (by rw [q])]; exact h
      · rw [if_neg q, if_neg (fun z => q (Option.some.inj z))]; exact h1
theorem putK_rep {y : Key} {d : D} {v : V} (h : Rep K mg ρ H d v) {kvs : List (Key × V)} {ds : List D} (r : RepL K mg ρ H ds (kvs.map (·.2))) :
    putKs (kvs.map fun p => kD p.1) y = (putK kvs y v).map (fun p => kD p.1) ∧ RepL K mg ρ H (putVs (kvs.map fun p => kD p.1) ds y d) ((putK kvs y v).map (·.2)) := by
  unfold putKs putVs putK
  rw [← anyK y kvs]
  split
  · rename_i q
    refine ⟨?_, putV_rep h r⟩
    rw [List.map_map]
    refine List.map_congr_left fun p _ => ?_
    simp only [Function.comp]
    split <;> rfl
  · refine ⟨by rw [List.map_append]; rfl, ?_⟩
    rw [List.map_append]
    exact r.append (RepL.cons h RepL.nil)
end
section
variable {X : Cx}
/-- d[k] -/
def ixDct : Sem2 := fun d e S => match asD S d, keyD e with
  | some p, some k => (match getK p.1 p.2 k with
    | some v => .ok v S
    | none => .bad)
  | _, _ => .bad
theorem ix_dct (hu : X.A.units + 1 < cLine) : IxR X (fun x y H Q => ∃ a v, x = .ref a ∧ DGet H a y (some v) ∧ Q v H) := by
  intro value slice pins s σ H x y v u Q I rx ry h hs
  obtain ⟨a, z, rfl, g, q⟩ := h
  obtain rfl : v = Value.ref a := rx
  exact PyProof.Rows.tail_any (dict_typeIs I g) PySem.F.slot_dict_getitem.lookup (d_getItem hu I g ry fun w' s' I' rw' => ⟨z, H, I', rw', q⟩) hs
theorem d_ixDct (hu : X.A.units + 1 < cLine) : IxD X ixDct := by
  refine ⟨_, ix_dct hu, fun Wp ρ H S d e x y Q w rx ry p => ?_⟩
  unfold ixDct at p
  split at p
  · rename_i pr k ep ek
    split at p
    · rename_i v ev
      obtain ⟨a, kvs, e1, h1, e2, r2⟩ := asD_rep w rx ep
      rw [e2] at ev
      obtain ⟨u, e3, r3⟩ := (getK_rep r2).1 v ev
      exact ⟨a, u, e1, .inl ⟨kvs, k, h1, rep_keyD ry ek, e3.symm⟩, post_ok p w r3⟩
    · exact p.elim
  · exact p.elim
/-- k in d -/
def inDct (neg : Bool) : Sem2 := fun e d S => match asD S d, keyD e with
  | some p, some k => .ok (.bl (if neg = true then !hasK p.1 k else hasK p.1 k)) S
  | _, _ => .bad
theorem op_inDct (hu : X.A.units + 1 < cLine) : OpR X (compareOp .In) (fun y x H Q => ∃ a o, x = .ref a ∧ DGet H a y o ∧ Q (.bl o.isSome) H) := by
  intro pins s σ H x y v u Q I rx ry h
  obtain ⟨a, o, rfl, g, q⟩ := h
  obtain rfl : u = Value.ref a := ry
  exact d_in hu I g rx fun s' I' => ⟨.bl o.isSome, H, I', rfl, q⟩
theorem d_inDct (hu : X.A.units + 1 < cLine) : OpD X (compareOp .In) (inDct false) := by
  refine ⟨_, op_inDct hu, fun Wp ρ H S d e x y Q w rx ry p => ?_⟩
  unfold inDct at p
  split at p
  · rename_i pr k ep ek
    obtain ⟨a, kvs, e1, h1, e2, r2⟩ := asD_rep w ry ep
    refine ⟨a, valV kvs k, e1, .inl ⟨kvs, k, h1, rep_keyD rx ek, rfl⟩, ?_⟩
    rw [(getK_rep (y := k) r2).2, ← e2]
    exact post_ok p w mk_bl
  · exact p.elim
/-! new dicts -/
/-- len(d) -/
theorem call_lenRd : CallR X (.builtin "len") (fun xs H Q => ∃ a kvs, xs = [V.ref a] ∧ Rd H a (.dK kvs) ∧ Q (.int kvs.length) H) := by
  intro pins s σ H xs us Q I r h
  obtain ⟨a, kvs, rfl, ha, q⟩ := h
  obtain ⟨u, rfl, ru⟩ := vals1 r
  cases ru
  exact L2.d_len I ha fun t s' I' => ⟨.int kvs.length, H, I', ⟨t, rfl⟩, q⟩
def semLenD : SemL := fun ds S => match ds with
  | [d] => (match asD S d with
    | some p => .ok (.int p.1.length) S
    | none => .bad)
  | _ => .bad
theorem d_lenD : CallD X (.builtin "len") semLenD := by
  refine ⟨_, call_lenRd, fun Wp ρ H S ds xs Q w r p => ?_⟩
  unfold semLenD at p
  split at p
  · split at p
    · rename_i pr ep
      obtain ⟨v, e, h1⟩ := repL_one r
      obtain ⟨a, kvs, e1, h2, e2, r2⟩ := asD_rep w h1 ep
      refine ⟨a, kvs, by rw [e, e1], h2, ?_⟩
      rw [e2, List.length_map] at p
      exact post_ok p w mk_int
    · exact p.elim
  · exact p.elim
/-! ### o[i] = v -/
def setD (o i v : D) (S : Store) : Option Store := match o with
  | .ptr n => (match S[n]? with
    | some (.lst xs) => (match i with
      | .int k => (match ixN xs.length k with
        | some j => some (S.set n (.lst (xs.set j v)))
        | none => none)
      | _ => none)
    | some (.dct false ks vs) => (match keyD i with
      | some k => if ks.length < 1000000 then some (S.set n (.dct false (putKs ks k) (putVs ks vs k v))) else none
      | none => none)
    | _ => none)
  | _ => none
def rSetU : V → V → V → Hp → (Hp → Prop) → Prop := fun o i v H Q => rSetL o i v H Q ∨ rSetD o i v H Q
theorem set_u (hu : X.A.units + 1 < cLine) : PSet X rSetU := by
  intro pins s σ H o i v ov iv u Q I ro ri rv h
  rcases h with h | h
  · exact set_list pins s σ H o i v ov iv u Q I ro ri rv h
  · exact set_dict hu pins s σ H o i v ov iv u Q I ro ri rv h
theorem setD_rep {K : PySem.W.Frag} {mg : Str → Option Value} {ρ : List Addr} {H : Hp} {S S' : Store} {o i v : D} {x y z : V} {Q : Hp → Prop} (w : WOk K mg ρ H S) (ro : Rep K mg ρ H o x) (ri : Rep K mg ρ H i y) (rv : Rep K mg ρ H v z) (h : setD o i v S = some S')
    (k : ∀ H', Ext ρ H ρ H' → WOk K mg ρ H' S' → Q H') : rSetU x y z H Q := by
  unfold setD at h
  split at h
  · rename_i n
    split at h
    · rename_i xs ex
      split at h
      · rename_i k0
        split at h
        · rename_i j ej
          cases h
          obtain ⟨a, vs, e1, q, h1, r1⟩ := ptr_lst w ro ex
          refine .inl ⟨a, vs, k0, j, e1, rep_int ri, h1, by rw [← r1.len]; exact ej, k _ (Ext.putL q) (w.put q ⟨_, upd_same, (r1.set rv j).ext (Ext.putL q)⟩)⟩
        · cases h
      · cases h
    · rename_i ks vs ex
      split at h
      · rename_i k0 ek
        split at h
        · rename_i hl
          cases h
          obtain ⟨a, kvs, e1, q, h1, r1, r2⟩ := ptr_dct w ro ex
          have eks := repK r1
          obtain ⟨z1, z2⟩ := putK_rep (y := k0) rv r2
          rw [← eks] at z1 z2
          refine .inr ⟨a, _, e1, .inl ⟨kvs, k0, h1, rep_keyD ri ek, ?_, rfl⟩, k _ (Ext.putL q) (w.put q ⟨putK kvs k0 z, by rw [if_neg Bool.false_ne_true]; exact upd_same, ?_, z2.ext (Ext.putL q)⟩)⟩
          · have e : ks.length = kvs.length := by rw [eks, List.length_map]
            rw [← e]
            have := line_of (n := ks.length + 1) (by omega)
            omega
          · rw [z1]; exact mkK _
        · cases h
      · cases h
    · cases h
  · cases h
def gSubX (fo fi : EX) : GX := fun v sl S => match fo sl S with
  | .ok o S1 => (match fi sl S1 with
    | .ok i S2 => (match setD o i v S2 with
      | some S3 => .nx sl S3
      | none => .bad)
    | _ => .bad)
  | _ => .bad
theorem nx_sub (fo fi : EX) (d : D) (sl : Sl) (S : Store) : (∃ sl' S', gSubX fo fi d sl S = .nx sl' S') ∨ gSubX fo fi d sl S = .bad := by
  unfold gSubX
  split
  · split
    · split
      · exact .inl ⟨_, _, rfl⟩
      · exact .inr rfl
    · exact .inr rfl
  · exact .inr rfl
section
variable {W : WX} {o i e : Expr} {fo fi fe : EX} {pos : Pos}
theorem g_sub (hu : X.A.units + 1 < cLine) (ho : E X W o fo) (hi : E X W i fi)
    (ha : ∀ v, assign (.Subscript o i pos) X.env v = (do
      let ov ← holding [v] (eval o X.env)
      let iv ← holding [v, ov] (eval i X.env)
      standAt pos
      holding [v, ov, iv] (setItem ov iv v)
      release [v, ov, iv] []) := by intro _; rfl) : EG X W (.Subscript o i pos) (gSubX fo fi) := by
  refine PG.imp (pg_sub ho hi (set_u hu) ha) fun v σ H Q ⟨ρ, S, sl, d, w, rs, rv, p⟩ => ?_
  have p : PostS X.K X.mg W ρ H ⟨Q, fun _ _ => False, fun _ _ => False, fun _ _ => False⟩ (gSubX fo fi d sl S) := p
  unfold gSubX at p
  split at p
  · rename_i o' S1 eo
    split at p
    · rename_i i' S2 ei
      split at p
      · rename_i S3 es
        refine ⟨ρ, S, sl, w, rs, ?_⟩
        rw [eo]
        intro x ρ1 H1 x1 w1 r1
        refine ⟨ρ1, S1, sl, w1, rs.ext x1, ?_⟩
        rw [ei]
        intro y ρ2 H2 x2 w2 r2
        refine setD_rep w2 (r1.ext x2) r2 (rv.ext (x1.trans x2)) es fun H' xx ww => ?_
        have xt := (x1.trans x2).trans xx
        exact p _ ρ2 H' xt ww (rs.ext xt)
      · exact p.elim
    · exact p.elim
  · exact p.elim
end
end
end Z
/-! Z8: slices, what is walked, list comprehensions. -/
namespace Z
open PySem PySem.Spec L2
/-! ### slices -/
def cutD (xs : List D) (lo hi : Option Int) : List D := (xs.drop (HT.sIx xs.length 0 lo)).take (HT.sIx xs.length xs.length hi - HT.sIx xs.length 0 lo)
def semSl (hand : Bool) : D → Option Int → Option Int → Store → Out D := fun d lo hi S => match d with
  | .str s => if s.length ≤ 1000000 then .ok (.str (cutS s lo hi)) S else .bad
  | .tup xs => .ok (.tup (cutD xs lo hi)) S
  | d => (match asS S d with
    | some xs => if hand = true then .ok (.ptr S.length) (S ++ [.lst (cutD xs lo hi)]) else .ok (.lst (cutD xs lo hi)) S
    | none => .bad)
abbrev OX := Sl → Store → Out (Option Int)
def oNone : OX := fun _ S => .ok none S
def oInt (f : EX) : OX := fun sl S => (f sl S).bind fun d S1 => match d with
  | .int i => .ok (some i) S1
  | _ => .bad
def eSl (hand : Bool) (fa : EX) (fl fu : OX) : EX := fun sl S => (fa sl S).bind fun d S1 => (fl sl S1).bind fun l S2 => (fu sl S2).bind fun u S3 => semSl hand d l u S3
section
variable {K : PySem.W.Frag} {mg : Str → Option Value} {ρ ρ' : List Addr} {H H' : Hp} {W : Value → Option Addr → Hp → Prop}
def PostO (K : PySem.W.Frag) (mg : Str → Option Value) (W : Value → Option Addr → Hp → Prop) (ρ : List Addr) (H : Hp) (Q : Option Int → Hp → Prop) : Out (Option Int) → Prop
  | .ok b S' => ∀ ρ' H', Ext ρ H ρ' H' → WOk K mg ρ' H' S' → Q b H'
  | .ex e S' => ∀ C dd ρ' H', Ext ρ H ρ' H' → WOk K mg ρ' H' S' → ExRep K mg ρ' H' e C dd → W C dd H'
  | .bad => False
theorem PostO.mono {Q Q' : Option Int → Hp → Prop} {o : Out (Option Int)} (h : PostO K mg W ρ H Q o) (k : ∀ v H', Q v H' → Q' v H') : PostO K mg W ρ H Q' o := by
  cases o with
  | ok d S => exact fun ρ' H' x w => k _ _ (h ρ' H' x w)
  | ex e S => exact h
  | bad => exact h
theorem asS_lst {S : Store} {d : D} {v : V} {ds : List D} (w : WOk K mg ρ H S) (r : Rep K mg ρ H d v) (h : asS S d = some ds) (hn : ∀ ys, d ≠ .tup ys) : ∃ a vs, v = .ref a ∧ SqL K H a vs ∧ RepL K mg ρ H ds vs := by
  cases d with
  | tup xs => exact absurd rfl (hn xs)
  | scr xs =>
    unfold asS at h
    cases h
    rw [Rep] at r
    obtain ⟨a, e, t⟩ := r
    exact ⟨a, _, e, t.sq, repL_ints xs⟩
  | lst xs =>
    obtain ⟨a, vs, e, h1, h2⟩ := asL_rep w r (show asL S (.lst xs) = some ds from h)
    exact ⟨a, vs, e, .inl (.inl h1), h2⟩
  | ptr n =>
    obtain ⟨a, vs, e, h1, h2⟩ := asL_rep w r (show asL S (.ptr n) = some ds from h)
    exact ⟨a, vs, e, .inl (.inl h1), h2⟩
  | _ => unfold asS asL at h; cases h
theorem PostO.bindE {Q : V → Hp → Prop} {o : Out (Option Int)} {k : Option Int → Store → Out D} (h : PostE K mg W ρ H Q (o.bind k)) :
    PostO K mg W ρ H (fun b H1 => ∃ ρ1 S1, Ext ρ H ρ1 H1 ∧ WOk K mg ρ1 H1 S1 ∧ PostE K mg W ρ1 H1 Q (k b S1)) o := by
  cases o with
  | ok d S => exact fun ρ2 H2 y w => ⟨ρ2, S, y, w, PostE.from y h⟩
  | ex e S => exact h
  | bad => exact h
end
section
variable {X : Cx} {W : WX}
/-- a slice's part -/
def EO (X : Cx) (W : WX) (e : Option Expr) (f : OX) : Prop := PO X e fun σ H Q => ∃ ρ S sl, WOk X.K X.mg ρ H S ∧ RSt X.K X.mg ρ H σ sl ∧ PostO X.K X.mg (fun C d H' => W C d σ H') ρ H Q (f sl S)
theorem PO.imp {e : Option Expr} {t t' : TO} (h : PO X e t) (k : ∀ σ H Q, t' σ H Q → t σ H Q) : PO X e t' := ⟨fun pins s σ H Q I q => h.run pins s σ H Q I (k σ H Q q)⟩
theorem o_none : EO X W none oNone := PO.imp po_none fun σ H Q ⟨ρ, S, sl, w, rs, p⟩ => p ρ H Ext.refl w
theorem o_int {e : Expr} {f : EX} (he : E X W e f) : EO X W (some e) (oInt f) := PO.imp (po_some he) fun σ H Q ⟨ρ, S, sl, w, rs, p⟩ => by
  refine ⟨ρ, S, sl, w, rs, ?_⟩
  have p : PostO X.K X.mg (fun C d H' => W C d σ H') ρ H Q ((f sl S).bind fun d S1 => match d with
    | .int i => .ok (some i) S1
    | _ => .bad) := p
  cases q : f sl S with
  | bad => rw [q] at p; exact p
  | ex e S1 => rw [q] at p; exact p
  | ok d S1 =>
    rw [q] at p
    intro v ρ1 H1 x1 w1 r1
    cases d with
    | int i => exact ⟨i, rep_int r1, p ρ1 H1 x1 w1⟩
    | _ => exact p.elim
theorem cutD_rep {K : PySem.W.Frag} {mg : Str → Option Value} {ρ : List Addr} {H : Hp} {xs : List D} {vs : List V} (lo hi : Option Int) (r : RepL K mg ρ H xs vs) : RepL K mg ρ H (cutD xs lo hi) (cutV vs lo hi) := by
  unfold cutD cutV
  rw [r.len]
  exact (r.drop _).take _
theorem cutD_all {xs : List D} {lo hi : Option Int} (h : HT.sIx xs.length 0 lo = 0 ∧ HT.sIx xs.length xs.length hi = xs.length) : cutD xs lo hi = xs := by
  unfold cutD
  rw [h.1, h.2]
  simp
theorem r_sl {hand : Bool} {a : Expr} {lo hi : Option Expr} {fa : EX} {fl fu : OX} {p2 pos : Pos} (ha : E X W a fa) (hl : EO X W lo fl) (hh : EO X W hi fu) : E X W (.Subscript a (.Slice lo hi none p2) pos) (eSl hand fa fl fu) := by
  refine PE.imp (pe_slice ((sl_list (X := X)).or ((sl_tupA (X := X)).or sl_str)) ha hl hh) fun σ H Q ⟨ρ, S, sl, w, rs, p⟩ => ?_
  refine ⟨ρ, S, sl, w, rs, PostE.mono (PostE.bindE p) fun x H1 ⟨ρ1, S1, d, x1, w1, r1, _, p1⟩ => ?_⟩
  refine ⟨ρ1, S1, sl, w1, rs.ext x1, PostO.mono (PostO.bindE p1) fun l H2 ⟨ρ2, S2, x2, w2, p2⟩ => ?_⟩
  refine ⟨ρ2, S2, sl, w2, rs.ext (x1.trans x2), PostO.mono (PostO.bindE p2) fun u H3 ⟨ρ3, S3, x3, w3, p3⟩ => ?_⟩
  have r3 := r1.ext (x2.trans x3)
  have go : ∀ xs, asS S3 d = some xs → (∀ ys, d ≠ .tup ys) → PostE X.K X.mg (fun C d H' => W C d σ H') ρ3 H3 Q (if hand = true then .ok (.ptr S3.length) (S3 ++ [.lst (cutD xs l u)]) else .ok (.lst (cutD xs l u)) S3) → rSlL X.K x l u H3 Q := fun xs ex hn p => by
    obtain ⟨a, vs, e1, h1, r4⟩ := asS_lst w3 r3 ex hn
    refine ⟨a, vs, e1, h1, fun p' hp => ?_⟩
    cases hand with
    | true => rw [if_pos rfl] at p; exact post_lstH p w3 (cutD_rep l u r4) hp
    | false => rw [if_neg Bool.false_ne_true] at p; exact post_lst p w3 (cutD_rep l u r4) hp
  cases d with
  | str s =>
    unfold semSl at p3
    simp only at p3
    split at p3
    · rename_i hl
      exact .inr (.inr ⟨s, rep_str r3, line_of hl, post_ok p3 w3 mk_str⟩)
    · exact p3.elim
  | tup xs =>
    have p3 : PostE X.K X.mg (fun C d H' => W C d σ H') ρ3 H3 Q (.ok (.tup (cutD xs l u)) S3) := p3
    have r3' := r3
    rw [Rep] at r3
    obtain ⟨a, vs, e1, t, r4⟩ := r3
    refine .inr (.inl ⟨a, vs, e1, t.sq, fun h => ?_, fun h p' hp => post_tup p3 w3 (cutD_rep l u r4) hp⟩)
    rw [← r4.len] at h
    rw [cutD_all h] at p3
    rw [← e1]
    exact post_ok p3 w3 r3'
  | lst xs => exact .inl (go xs rfl (by intros; nofun) p3)
  | scr xs => exact .inl (go _ rfl (by intros; nofun) p3)
  | ptr n =>
    have p3 : PostE X.K X.mg (fun C d H' => W C d σ H') ρ3 H3 Q (match asS S3 (.ptr n) with
      | some xs => if hand = true then .ok (.ptr S3.length) (S3 ++ [.lst (cutD xs l u)]) else .ok (.lst (cutD xs l u)) S3
      | none => .bad) := p3
    split at p3
    · rename_i ys ey
      exact .inl (go ys ey (by intros; nofun) p3)
    · exact p3.elim
  | _ => exact p3.elim
end
end Z
/-! Z9: what is walked; list comprehensions. -/
namespace Z
open PySem PySem.Spec L2 Za
section
variable {X : Cx} {W : WX} {tg e : Expr}
theorem pi_or {t1 t2 : TI} (h1 : PI X tg e t1) (h2 : PI X tg e t2) : PI X tg e fun σ H R => t1 σ H R ∨ t2 σ H R := ⟨fun pins s σ H R I h => by
  rcases h with h | h
  · exact h1.run pins s σ H R I h
  · exact h2.run pins s σ H R I h⟩
/-- a dict's keys: the dict is locked for good -/
theorem pi_keysF {td : TE} (he : PE X e td) : PI X tg e fun σ H R => td σ H fun x H1 => ∃ d kvs, x = .ref d ∧ ((H1 d = some (.dK kvs) ∧ ∀ o, R (Itk d o kvs) (upd H1 d (.frz o (.dK kvs)))) ∨ ∃ o, H1 d = some (.frz o (.dK kvs)) ∧ R (Itk d o kvs) H1) := by
  refine ⟨fun pins s σ H R I h => ?_⟩
  refine thn (he.run pins s σ H _ I h) fun u s1 ⟨x, H1, I1, rx, d, kvs, ex, q⟩ => ?_
  subst ex
  obtain rfl : u = Value.ref d := rx
  have go : ∀ (H2 : Hp) (o : Obj), Inv X pins σ H2 s1 → H2 d = some (.frz o (.dK kvs)) → R (Itk d o kvs) H2 → wpAny (model X.prog X.w) X.A (pyIter (.ref d)) (PIE X pins σ tg R) X.xe s1 := fun H2 o I2 hd q => by
    obtain ⟨hs, hgd, hx, es, ep, vs, hdt, hsz, kv, hm⟩ := I2.frzK hd
    refine iter_keys hs hgd hx hdt (pi_one (tk := s1.toks) I2 _ (turn_keys _ hdt) ⟨_, Heap.get?_push_size _ rfl, rfl, ?_⟩ q)
    rw [hsz] <;> rfl
  rcases q with ⟨hd, q⟩ | ⟨o, hd, q⟩
  · obtain ⟨od, I2⟩ := I1.lock hd trivial
    exact go _ od I2 upd_same (q od)
  · exact go _ o I1 hd q
end
/-! ### sources -/
def signsD (s : Str) : List D := s.cps.toList.map fun c => D.str ⟨#[c]⟩
def srcD (S : Store) : D → Option (List D)
  | .str s => some (signsD s)
  | d => asS S d
section
variable {K : PySem.W.Frag} {mg : Str → Option Value} {ρ : List Addr} {H : Hp} {S : Store}
theorem mk_signs : ∀ (l : List Nat), RepL K mg ρ H (l.map fun c => D.str ⟨#[c]⟩) (l.map fun c => V.str ⟨#[c]⟩)
  | [] => RepL.nil
  | c :: l => RepL.cons mk_str (mk_signs l)
theorem src_rep {d : D} {v : V} {xs : List D} (w : WOk K mg ρ H S) (r : Rep K mg ρ H d v) (h : srcD S d = some xs) :
    ∃ c : Src, c.val = v ∧ ∀ ρ' H' S' xs', Ext ρ H ρ' H' → WOk K mg ρ' H' S' → srcD S' d = some xs' → ∃ vs, c.At K H' vs ∧ RepL K mg ρ' H' xs' vs := by
  have lst : (∀ ys, d ≠ .tup ys) → (∀ s, d ≠ .str s) → asS S d = some xs → ∃ c : Src, c.val = v ∧ ∀ ρ' H' S' xs', Ext ρ H ρ' H' → WOk K mg ρ' H' S' → srcD S' d = some xs' → ∃ vs, c.At K H' vs ∧ RepL K mg ρ' H' xs' vs := fun hn hs e => by
    obtain ⟨a, vs, e1, _, _⟩ := asS_lst w r e hn
    refine ⟨.L a, e1.symm, fun ρ' H' S' xs' x w' e' => ?_⟩
    have e'' : asS S' d = some xs' := by
      cases d with
      | str s => exact absurd rfl (hs s)
      | _ => exact e'
    obtain ⟨a', vs', e2, h2, r2⟩ := asS_lst w' (r.ext x) e'' hn
    rw [e1] at e2
    cases e2
    exact ⟨vs', h2, r2⟩
  cases d with
  | str s =>
    refine ⟨.S s, (rep_str r).symm, fun ρ' H' S' xs' x w' e' => ?_⟩
    cases e'
    exact ⟨_, rfl, mk_signs _⟩
  | tup ys =>
    cases h
    have r' := r
    rw [Rep] at r
    obtain ⟨a, vs, e1, t, r1⟩ := r
    refine ⟨.T a, e1.symm, fun ρ' H' S' xs' x w' e' => ?_⟩
    cases e'
    have r2 := r'.ext x
    rw [Rep] at r2
    obtain ⟨a', vs', e2, t', r3⟩ := r2
    rw [e1] at e2
    cases e2
    exact ⟨vs', t'.sq, r3⟩
  | lst ys => exact lst (by intros; nofun) (by intros; nofun) h
  | scr ys => exact lst (by intros; nofun) (by intros; nofun) h
  | ptr n => exact lst (by intros; nofun) (by intros; nofun) h
  | _ => cases h
/-- walking a source's items as they are -/
theorem walk_src {c : Src} {d : D} {xs : List D} (hq : ∀ ρ' H' S', Ext ρ H ρ' H' → WOk K mg ρ' H' S' → srcD S' d = some xs → ∃ vs, c.At K H' vs ∧ RepL K mg ρ' H' xs vs) {J : It}
    (hJ : J = match c with
      | .L a => Itl K a
      | .T a => Itt K a
      | .S x => Its x) : IWalk K mg J xs (fun S' => srcD S' d = some xs) ρ H := by
  subst hJ
  cases c with
  | L a =>
    refine ⟨fun i ρ' H' S' hi x w g => ?_, fun ρ' H' S' x w g => ?_, fun i ρ' H' S' v H2 hi x w g y => ?_⟩
    · obtain ⟨vs, h1, r1⟩ := hq ρ' H' S' x w g
      exact ⟨vs, vs[i]'(by rw [← r1.len]; exact hi), h1, by simp⟩
    · obtain ⟨vs, h1, r1⟩ := hq ρ' H' S' x w g
      exact ⟨vs, h1, by rw [r1.len]; exact Nat.le_refl _⟩
    · obtain ⟨vs, h1, r1⟩ := hq ρ' H' S' x w g
      obtain ⟨rfl, y⟩ := y
      obtain ⟨d', e, r⟩ := r1.get' (y vs h1)
      exact ⟨d', e, Ext.refl, w, r⟩
  | T a =>
    refine ⟨fun i ρ' H' S' hi x w g => ?_, fun ρ' H' S' x w g => ?_, fun i ρ' H' S' v H2 hi x w g y => ?_⟩
    · obtain ⟨vs, h1, r1⟩ := hq ρ' H' S' x w g
      exact ⟨vs, vs[i]'(by rw [← r1.len]; exact hi), h1, by simp⟩
    · obtain ⟨vs, h1, r1⟩ := hq ρ' H' S' x w g
      exact ⟨vs, h1, by rw [r1.len]; exact Nat.le_refl _⟩
    · obtain ⟨vs, h1, r1⟩ := hq ρ' H' S' x w g
      obtain ⟨rfl, y⟩ := y
      obtain ⟨d', e, r⟩ := r1.get' (y vs h1)
      exact ⟨d', e, Ext.refl, w, r⟩
  | S s =>
    refine ⟨fun i ρ' H' S' hi x w g => ?_, fun ρ' H' S' x w g => ?_, fun i ρ' H' S' v H2 hi x w g y => ?_⟩
    · obtain ⟨vs, h1, r1⟩ := hq ρ' H' S' x w g
      have h1 : vs = s.cps.toList.map fun c => V.str ⟨#[c]⟩ := h1
      have := r1.len
      rw [h1, List.length_map] at this
      show i < s.cps.size
      rw [this] at hi
      simpa using hi
    · obtain ⟨vs, h1, r1⟩ := hq ρ' H' S' x w g
      have h1 : vs = s.cps.toList.map fun c => V.str ⟨#[c]⟩ := h1
      have := r1.len
      rw [h1, List.length_map] at this
      show s.cps.size ≤ xs.length
      rw [this]
      simp
    · obtain ⟨vs, h1, r1⟩ := hq ρ' H' S' x w g
      have h1 : vs = s.cps.toList.map fun c => V.str ⟨#[c]⟩ := h1
      obtain ⟨rfl, c, ec, ev⟩ := y
      obtain ⟨d', e, r⟩ := r1.get' (i := i) (v := v) (by rw [h1, ev]; simp [ec])
      exact ⟨d', e, Ext.refl, w, r⟩
end
section
variable {X : Cx} {W : WX} {tg e e2 : Expr} {f : EX} {fa : AX} {p pos tpos : Pos} {elts : List Expr} {kk : Nat}
def itK : D → Store → Out (List D × (Store → Prop)) := fun d S1 => match d with
  | .dct ks vs => .ok (ks, fun _ => True) S1
  | d => (match srcD S1 d with
    | some xs => .ok (xs, fun S2 => srcD S2 d = some xs) S1
    | none => .bad)
def itAny (f : EX) : IX := fun sl S => (f sl S).bind itK
theorem post_i {K : PySem.W.Frag} {mg : Str → Option Value} {ρ : List Addr} {H : Hp} {S : Store} {Wp : Value → Option Addr → Hp → Prop} {R : It → Hp → Prop} {xs : List D} {G : Store → Prop} {J : It} (h : PostI K mg Wp ρ H R (.ok (xs, G) S)) (w : WOk K mg ρ H S) (i : IWalk K mg J xs G ρ H) : R J H := h ρ H J Ext.refl w i
theorem PostI.from {K : PySem.W.Frag} {mg : Str → Option Value} {ρ ρ' : List Addr} {H H' : Hp} {Wp : Value → Option Addr → Hp → Prop} {R : It → Hp → Prop} {o : Out (List D × (Store → Prop))} (x : Ext ρ H ρ' H') (h : PostI K mg Wp ρ H R o) : PostI K mg Wp ρ' H' R o := by
  cases o with
  | ok p S => exact fun ρ2 H2 J y w i => h ρ2 H2 J (x.trans y) w i
  | ex e S => exact fun C dd ρ2 H2 y w r => h C dd ρ2 H2 (x.trans y) w r
  | bad => exact h
theorem PostI.bindE {K : PySem.W.Frag} {mg : Str → Option Value} {ρ : List Addr} {H : Hp} {Wp : Value → Option Addr → Hp → Prop} {R : It → Hp → Prop} {o : Out D} {k : D → Store → Out (List D × (Store → Prop))} (h : PostI K mg Wp ρ H R (o.bind k)) :
    PostE K mg Wp ρ H (fun v H1 => ∃ ρ1 S1 d, Ext ρ H ρ1 H1 ∧ WOk K mg ρ1 H1 S1 ∧ Rep K mg ρ1 H1 d v ∧ o = .ok d S1 ∧ PostI K mg Wp ρ1 H1 R (k d S1)) o := by
  cases o with
  | ok d S => exact fun v ρ2 H2 y w r => ⟨ρ2, S, d, y, w, r, rfl, PostI.from y h⟩
  | ex e S => exact h
  | bad => exact h
theorem PostI.bindA {K : PySem.W.Frag} {mg : Str → Option Value} {ρ : List Addr} {H : Hp} {Wp : Value → Option Addr → Hp → Prop} {R : It → Hp → Prop} {o : Out (List D)} {k : List D → Store → Out (List D × (Store → Prop))} (h : PostI K mg Wp ρ H R (o.bind k)) :
    PostA K mg Wp ρ H (fun v H1 => ∃ ρ1 S1 d, Ext ρ H ρ1 H1 ∧ WOk K mg ρ1 H1 S1 ∧ RepL K mg ρ1 H1 d v ∧ PostI K mg Wp ρ1 H1 R (k d S1)) o := by
  cases o with
  | ok d S => exact fun v ρ2 H2 y w r => ⟨ρ2, S, d, y, w, r, PostI.from y h⟩
  | ex e S => exact h
  | bad => exact h
/-- a dict walked -/
theorem Ext.lock {ρ : List Addr} {H : Hp} {d : Addr} {o : Obj} {kvs : List (Key × V)} (n : d ∉ ρ) (h : H d = some (.dK kvs)) : Ext ρ H ρ (upd H d (.frz o (.dK kvs))) := by
  refine ⟨⟨[], by simp⟩, fun a h n => absurd h n, fun a u n' h' => ?_⟩
  by_cases q : a = d
  · subst q
    rw [h] at h'
    cases h'
    exact .inr ⟨⟨kvs, rfl⟩, o, upd_same⟩
  · exact .inl (by rw [upd_ne q]; exact h')
theorem WOk.lock {K : PySem.W.Frag} {mg : Str → Option Value} {ρ : List Addr} {H : Hp} {S : Store} {d : Addr} {o : Obj} {kvs : List (Key × V)} (w : WOk K mg ρ H S) (n : d ∉ ρ) (h : H d = some (.dK kvs)) : WOk K mg ρ (upd H d (.frz o (.dK kvs))) S := by
  have ne : ∀ a ∈ ρ, a ≠ d := fun a ha q => n (q ▸ ha)
  refine ⟨w.len, w.nd, fun a ha => by rw [upd_ne (ne a ha)]; exact w.tr a ha, fun n' a m e1 e2 => ?_⟩
  have ha : a ∈ ρ := List.mem_of_getElem? e1
  exact MRep.ext (Ext.lock n h) (upd_ne (ne a ha)) (w.ob n' a m e1 e2)
theorem walk_keys {K : PySem.W.Frag} {mg : Str → Option Value} {ρ : List Addr} {H : Hp} {d : Addr} {o : Obj} {kvs : List (Key × V)} (n : d ∉ ρ) (h : H d = some (.frz o (.dK kvs))) : IWalk K mg (Itk d o kvs) (kvs.map fun p => kD p.1) (fun _ => True) ρ H := by
  have st : ∀ ρ' H', Ext ρ H ρ' H' → H' d = some (.frz o (.dK kvs)) := fun ρ' H' x => x.kept n h (by intros; nofun)
  refine ⟨fun i ρ' H' S' hi x w g => ⟨st ρ' H' x, by simpa using hi⟩, fun ρ' H' S' x w g => ⟨st ρ' H' x, by simp⟩, fun i ρ' H' S' v H2 hi x w g y => ?_⟩
  obtain ⟨rfl, k, u, e, ev⟩ := y
  refine ⟨kD k, by rw [List.getElem?_map, e]; rfl, Ext.refl, w, ?_⟩
  rw [ev]
  exact mk_kV k
theorem i_any (he : E X W e f) : EI X W tg e (itAny f) := by
  refine PI.imp (pi_or (pi_or (pi_list (tg := tg) he) (pi_tup he)) (pi_or (pi_str he) (pi_keysF he))) fun σ H R ⟨ρ, S, sl, w, rs, p⟩ => ?_
  have p' := PostI.bindE p
  cases q : f sl S with
  | bad => rw [q] at p'; exact p'.elim
  | ex e S1 => exact .inl (.inl ⟨ρ, S, sl, w, rs, by rw [q] at p' ⊢; exact p'⟩)
  | ok d S1 =>
    have key : ∀ (g : V → Hp → Prop), (∀ v ρ1 H1, WOk X.K X.mg ρ1 H1 S1 → Rep X.K X.mg ρ1 H1 d v → PostI X.K X.mg (fun C d H' => W C d σ H') ρ1 H1 R (itK d S1) → g v H1) → trE X.K X.mg W f σ H g := fun g hg => ⟨ρ, S, sl, w, rs, PostE.mono p' fun v H1 ⟨ρ1, S1', d', x1, w1, r1, eq, p1⟩ => by
        rw [q] at eq
        cases eq
        exact hg v ρ1 H1 w1 r1 p1⟩
    have none_ : srcD S1 d = none → (∀ ks vs, d ≠ .dct ks vs) → ∀ (v : V) ρ1 H1, PostI X.K X.mg (fun C d H' => W C d σ H') ρ1 H1 R (itK d S1) → False := fun ex hn v ρ1 H1 p1 => by
      cases d with
      | dct ks vs => exact absurd rfl (hn ks vs)
      | _ => simp only [itK, ex] at p1; exact p1
    have lst : (∀ ks vs, d ≠ .dct ks vs) → (∀ ys, d ≠ .tup ys) → (∀ s, d ≠ .str s) → iList X.K (trE X.K X.mg W f) σ H R := fun h1 h2 h3 => by
      refine key _ fun v ρ1 H1 w1 r1 p1 => ?_
      cases ex : srcD S1 d with
      | none => exact (none_ ex h1 v ρ1 H1 p1).elim
      | some xs =>
        have ex' : asS S1 d = some xs := by
          cases d with
          | str s => exact absurd rfl (h3 s)
          | _ => exact ex
        obtain ⟨a, vs, e1, g1, _⟩ := asS_lst w1 r1 ex' h2
        have p2 : PostI X.K X.mg (fun C d H' => W C d σ H') ρ1 H1 R (.ok (xs, fun S2 => srcD S2 d = some xs) S1) := by
          cases d with
          | dct ks vs => exact absurd rfl (h1 ks vs)
          | _ => simp only [itK, ex] at p1; exact p1
        refine ⟨a, e1, ⟨vs, g1⟩, post_i p2 w1 (walk_src (c := .L a) (fun ρ' H' S' x' w' g' => ?_) rfl)⟩
        have g'' : asS S' d = some xs := by
          cases d with
          | str s => exact absurd rfl (h3 s)
          | _ => exact g'
        obtain ⟨a', vs', e2, q2, r2⟩ := asS_lst w' (r1.ext x') g'' h2
        rw [e1] at e2
        cases e2
        exact ⟨vs', q2, r2⟩
    cases d with
    | dct ks vs =>
      refine .inr (.inr (key _ fun v ρ1 H1 w1 r1 p1 => ?_))
      have r1' := r1
      rw [Rep] at r1
      obtain ⟨a, kv, vs', e1, ⟨n, kvs, t, z1, z2⟩, r2, r3⟩ := r1
      subst z1 z2
      have ek := repK r2
      refine ⟨a, kvs, e1, ?_⟩
      have p1 : PostI X.K X.mg (fun C d H' => W C d σ H') ρ1 H1 R (.ok (ks, fun _ => True) S1) := p1
      rcases t with t | ⟨o, t⟩
      · refine .inl ⟨t, fun o => ?_⟩
        refine PostI.from (Ext.lock n t) p1 ρ1 _ _ Ext.refl (w1.lock n t) ?_
        rw [ek]
        exact walk_keys n upd_same
      · refine .inr ⟨o, t, post_i p1 w1 ?_⟩
        rw [ek]
        exact walk_keys n t
    | str s =>
      refine .inr (.inl (key _ fun v ρ1 H1 w1 r1 p1 => ?_))
      refine ⟨s, rep_str r1, ?_⟩
      exact post_i (show PostI X.K X.mg (fun C d H' => W C d σ H') ρ1 H1 R (.ok (signsD s, fun S2 => srcD S2 (.str s) = some (signsD s)) S1) from p1) w1 (walk_src (c := .S s) (fun ρ' H' S' x' w' g' => ⟨_, rfl, mk_signs _⟩) rfl)
    | tup ys =>
      refine .inl (.inr (key _ fun v ρ1 H1 w1 r1 p1 => ?_))
      have r1' := r1
      rw [Rep] at r1
      obtain ⟨a, vs, e1, t, r2⟩ := r1
      refine ⟨a, e1, ⟨vs, t.sq⟩, ?_⟩
      refine post_i (show PostI X.K X.mg (fun C d H' => W C d σ H') ρ1 H1 R (.ok (ys, fun S2 => srcD S2 (.tup ys) = some ys) S1) from p1) w1 (walk_src (c := .T a) (fun ρ' H' S' x' w' g' => ?_) rfl)
      have r3 := r1'.ext x'
      rw [Rep] at r3
      obtain ⟨a', vs', e2, t', r4⟩ := r3
      rw [e1] at e2
      cases e2
      exact ⟨vs', t'.sq, r4⟩
    | _ => exact .inl (.inl (lst (by intros; nofun) (by intros; nofun) (by intros; nofun)))
/-! range -/
def rangeD (lo : Int) (n : Nat) : List D := (List.range n).map fun (i : Nat) => D.int (lo + i)
def itRange1 (fa : AX) : IX := fun sl S => (fa sl S).bind fun ds S1 => match ds with
  | [.int j] => if -(2 ^ 62) ≤ j ∧ j < 2 ^ 62 then .ok (rangeD 0 j.toNat, fun _ => True) S1 else .bad
  | _ => .bad
theorem walk_range {K : PySem.W.Frag} {mg : Str → Option Value} {ρ : List Addr} {H : Hp} (lo : Int) (n : Nat) : IWalk K mg (Itr lo n) (rangeD lo n) (fun _ => True) ρ H := by
  refine ⟨fun i ρ' H' S' hi x w g => by show i < n; simpa [rangeD] using hi, fun ρ' H' S' x w g => by show n ≤ _; simp [rangeD], fun i ρ' H' S' v H2 hi x w g y => ?_⟩
  obtain ⟨rfl, ev⟩ := y
  have hi : i < n := by simpa [rangeD] using hi
  exact ⟨.int (lo + i), by simp [rangeD, hi], Ext.refl, w, by rw [ev]; exact mk_int⟩
theorem i_range1 (ha : EA X W [e] fa) (hg : Gl X "range") (hm : X.mg "range" = none) (hs : starEach [e] X.env = [(false, eval e X.env)] := by rfl) : EI X W tg (.Call (.Name "range" p) [e] [] pos) (itRange1 fa) := by
  refine PI.imp (pi_range1 hg hm ha hs) fun σ H R ⟨ρ, S, sl, w, rs, p⟩ => ⟨ρ, S, sl, w, rs, PostA.mono (PostI.bindA p) fun vs H1 ⟨ρ1, S1, ds, x1, w1, r1, p1⟩ => ?_⟩
  split at p1
  · rename_i j
    split at p1
    · rename_i hj
      obtain ⟨v, e1, r2⟩ := repL_one r1
      rw [rep_int r2] at e1
      exact ⟨j, e1, hj.1, hj.2, post_i p1 w1 (walk_range 0 _)⟩
    · exact p1.elim
  · exact p1.elim
/-! zip, enumerate -/
def zipD (xs ys : List D) : List D := List.zipWith (fun x y => .tup [x, y]) xs ys
def itZip (fa : AX) : IX := fun sl S => (fa sl S).bind fun ds S1 => match ds with
  | [d, e] => (match srcD S1 d, srcD S1 e with
    | some xs, some ys => .ok (zipD xs ys, fun S2 => srcD S2 d = some xs ∧ srcD S2 e = some ys) S1
    | _, _ => .bad)
  | _ => .bad
theorem i_zip (ha : EA X W [e, e2] fa) (hg : Gl X "zip") (hm : X.mg "zip" = none)
    (hs : starEach [e, e2] X.env = (false, eval e X.env) :: starEach [e2] X.env := by rfl) (hpl : (backTo pos (starEach [e2] X.env)).any (·.1) = false := by rfl) : EI X W (.Tuple elts kk tpos) (.Call (.Name "zip" p) [e, e2] [] pos) (itZip fa) := by
  refine PI.imp (pi_zipU hg hm ha hs hpl) fun σ H R ⟨ρ, S, sl, w, rs, p⟩ => ⟨ρ, S, sl, w, rs, PostA.mono (PostI.bindA p) fun vs H1 ⟨ρ1, S1, ds, x1, w1, r1, p1⟩ => ?_⟩
  split at p1
  · rename_i d d'
    split at p1
    · rename_i xs ys ex ey
      obtain ⟨v, u, e1, r2, r3⟩ := repL_two r1
      obtain ⟨c, ec, hc⟩ := src_rep w1 r2 ex
      obtain ⟨c', ec', hc'⟩ := src_rep w1 r3 ey
      obtain ⟨us, h1, _⟩ := hc ρ1 H1 S1 xs Ext.refl w1 ex
      obtain ⟨us', h1', _⟩ := hc' ρ1 H1 S1 ys Ext.refl w1 ey
      refine ⟨c, c', us, us', by rw [e1, ec, ec'], h1, h1', post_i p1 w1 ?_⟩
      refine ⟨fun i ρ' H' S' hi x w g => ?_, fun ρ' H' S' x w g => ?_, fun i ρ' H' S' v H2 hi x w g y => ?_⟩
      · obtain ⟨vs, q1, t1⟩ := hc ρ' H' S' xs x w g.1
        obtain ⟨vs', q2, t2⟩ := hc' ρ' H' S' ys x w g.2
        simp only [zipD, List.length_zipWith] at hi
        have l1 := t1.len
        have l2 := t2.len
        exact ⟨vs, vs', vs[i]'(by omega), vs'[i]'(by omega), q1, q2, by simp, by simp⟩
      · obtain ⟨vs, q1, t1⟩ := hc ρ' H' S' xs x w g.1
        obtain ⟨vs', q2, t2⟩ := hc' ρ' H' S' ys x w g.2
        have l1 := t1.len
        have l2 := t2.len
        refine ⟨vs, vs', q1, q2, ?_⟩
        simp only [zipD, List.length_zipWith]
        omega
      · obtain ⟨vs, q1, t1⟩ := hc ρ' H' S' xs x w g.1
        obtain ⟨vs', q2, t2⟩ := hc' ρ' H' S' ys x w g.2
        obtain ⟨T, a, b, ev, hT, rfl, y1, y2⟩ := y
        obtain ⟨d1, g1, k1⟩ := t1.get' (y1 vs q1)
        obtain ⟨d2, g2, k2⟩ := t2.get' (y2 vs' q2)
        refine ⟨.tup [d1, d2], by simp [zipD, List.getElem?_zipWith, g1, g2], Ext.new' hT, w.new' hT, ?_⟩
        rw [Rep]
        exact ⟨T, _, ev, .inl ⟨w.nin hT, upd_same⟩, RepL.cons (k1.ext (Ext.new' hT)) (RepL.cons (k2.ext (Ext.new' hT)) RepL.nil)⟩
    · exact p1.elim
  · exact p1.elim
def enumD : Nat → List D → List D
  | _, [] => []
  | i, x :: xs => .tup [.int i, x] :: enumD (i + 1) xs
theorem enumD_len : ∀ (i : Nat) (xs : List D), (enumD i xs).length = xs.length
  | _, [] => rfl
  | i, x :: xs => by rw [enumD, List.length_cons, List.length_cons, enumD_len]
theorem enumD_get : ∀ (i : Nat) (xs : List D) (j : Nat), (enumD i xs)[j]? = xs[j]?.map fun x => .tup [.int ((i + j : Nat) : Int), x]
  | _, [], j => by simp [enumD]
  | i, x :: xs, 0 => by simp [enumD]
  | i, x :: xs, j + 1 => by
    rw [enumD, List.getElem?_cons_succ, List.getElem?_cons_succ, enumD_get]
    congr 2
    funext x
    congr 3
    omega
def itEnum (fa : AX) : IX := fun sl S => (fa sl S).bind fun ds S1 => match ds with
  | [d] => (match srcD S1 d with
    | some xs => .ok (enumD 0 xs, fun S2 => srcD S2 d = some xs) S1
    | _ => .bad)
  | _ => .bad
theorem i_enum (ha : EA X W [e] fa) (hg : Gl X "enumerate") (hm : X.mg "enumerate" = none) (hs : starEach [e] X.env = [(false, eval e X.env)] := by rfl) : EI X W (.Tuple elts kk tpos) (.Call (.Name "enumerate" p) [e] [] pos) (itEnum fa) := by
  refine PI.imp (pi_enumU hg hm ha hs) fun σ H R ⟨ρ, S, sl, w, rs, p⟩ => ⟨ρ, S, sl, w, rs, PostA.mono (PostI.bindA p) fun vs H1 ⟨ρ1, S1, ds, x1, w1, r1, p1⟩ => ?_⟩
  split at p1
  · rename_i d
    split at p1
    · rename_i xs ex
      obtain ⟨v, e1, r2⟩ := repL_one r1
      obtain ⟨c, ec, hc⟩ := src_rep w1 r2 ex
      obtain ⟨us, h1, _⟩ := hc ρ1 H1 S1 xs Ext.refl w1 ex
      refine ⟨c, us, by rw [e1, ec], h1, post_i p1 w1 ?_⟩
      refine ⟨fun i ρ' H' S' hi x w g => ?_, fun ρ' H' S' x w g => ?_, fun i ρ' H' S' v H2 hi x w g y => ?_⟩
      · obtain ⟨vs, q1, t1⟩ := hc ρ' H' S' xs x w g
        rw [enumD_len] at hi
        exact ⟨vs, vs[i]'(by rw [← t1.len]; exact hi), q1, by simp⟩
      · obtain ⟨vs, q1, t1⟩ := hc ρ' H' S' xs x w g
        exact ⟨vs, q1, by rw [enumD_len, t1.len]⟩
      · obtain ⟨vs, q1, t1⟩ := hc ρ' H' S' xs x w g
        obtain ⟨T, a, ev, hT, rfl, y1⟩ := y
        obtain ⟨d1, g1, k1⟩ := t1.get' (y1 vs q1)
        refine ⟨.tup [.int ((0 + i : Nat) : Int), d1], by rw [enumD_get, g1]; rfl, Ext.new' hT, w.new' hT, ?_⟩
        rw [Rep]
        exact ⟨T, _, ev, .inl ⟨w.nin hT, upd_same⟩, RepL.cons (by rw [Nat.zero_add]; exact mk_int) (RepL.cons (k1.ext (Ext.new' hT)) RepL.nil)⟩
    · exact p1.elim
  · exact p1.elim
end
end Z
/-! ZA: list comprehensions. -/
namespace Z
open PySem PySem.Spec L2
/-- the block's own slots forgotten -/
def wipeS (sl : Sl) : List Nat → Sl
  | [] => sl
  | v :: vs => (wipeS sl vs).set v none
theorem wipeS_len (sl : Sl) : ∀ vs, (wipeS sl vs).length = sl.length
  | [] => rfl
  | v :: vs => by rw [wipeS, List.length_set, wipeS_len]
theorem wipe_set {σ : L2.St} {i : Nat} {x : Option V} : ∀ {vs : List Nat}, i ∈ vs → wipe (σ.set i x) vs = wipe σ vs
  | v :: vs, h => by
    rw [wipe, wipe]
    by_cases hi : i = v
    · subst hi
      by_cases hv : i ∈ vs
      · rw [wipe_set hv]
      · have : ∀ ws : List Nat, i ∉ ws → wipe (σ.set i x) ws = (wipe σ ws).set i x := by
          intro ws
          induction ws with
          | nil => intro _; rfl
          | cons w ws ih =>
            intro hn
            rw [wipe, wipe, ih (fun q => hn (List.mem_cons_of_mem _ q))]
            exact List.set_comm _ _ (fun q => hn (by rw [q]; exact List.mem_cons_self))
        rw [this vs hv, List.set_set]
    · rw [wipe_set (by rcases List.mem_cons.mp h with q | q; exact absurd q hi; exact q)]
theorem wipe_wipe {σ : L2.St} : ∀ {vs us : List Nat}, (∀ v ∈ us, v ∈ vs) → wipe (wipe σ us) vs = wipe σ vs
  | vs, [], _ => rfl
  | vs, u :: us, h => by
    rw [show wipe σ (u :: us) = (wipe σ us).set u none from rfl, wipe_set (h u List.mem_cons_self)]
    exact wipe_wipe fun v hv => h v (List.mem_cons_of_mem _ hv)
theorem RSt.wipe {K : PySem.W.Frag} {mg : Str → Option Value} {ρ : List Addr} {H : Hp} {σ : L2.St} {sl : Sl} (r : RSt K mg ρ H σ sl) : ∀ vs : List Nat, RSt K mg ρ H (L2.wipe σ vs) (wipeS sl vs)
  | [] => r
  | v :: vs => by
    have ih := RSt.wipe r vs
    refine ⟨by rw [wipe_length, wipeS_len]; exact r.len, fun j d e => ?_⟩
    rw [wipeS] at e
    rw [L2.wipe]
    by_cases hj : v = j
    · subst hj
      by_cases hl : v < (wipeS sl vs).length
      · rw [List.getElem?_set_self hl] at e; cases e
      · rw [List.getElem?_eq_none (by simpa using hl)] at e; cases e
    · rw [List.getElem?_set_ne hj] at e ⊢
      exact ih.at_ j d e
/-! ### targets within the block -/
def trGw (K : PySem.W.Frag) (mg : Str → Option Value) (W : WX) (vs : List Nat) (ω : L2.St) (g : GX) : TG := fun v σ H Q => ∃ ρ S sl d, WOk K mg ρ H S ∧ RSt K mg ρ H σ sl ∧ Rep K mg ρ H d v ∧ L2.wipe σ vs = ω ∧ PostS K mg W ρ H ⟨fun σ' H' => L2.wipe σ' vs = ω → Q σ' H', fun _ _ => False, fun _ _ => False, fun _ _ => False⟩ (g d sl S)
def trGsw (K : PySem.W.Frag) (mg : Str → Option Value) (W : WX) (vs : List Nat) (ω : L2.St) (g : GXs) : TGs := fun v σ H Q => ∃ ρ S sl d, WOk K mg ρ H S ∧ RSt K mg ρ H σ sl ∧ RepL K mg ρ H d v ∧ L2.wipe σ vs = ω ∧ PostS K mg W ρ H ⟨fun σ' H' => L2.wipe σ' vs = ω → Q σ' H', fun _ _ => False, fun _ _ => False, fun _ _ => False⟩ (g d sl S)
def EGw (X : Cx) (W : WX) (vs : List Nat) (tg : Expr) (g : GX) : Prop := ∀ ω, PG X tg (trGw X.K X.mg W vs ω g)
def EGsw (X : Cx) (W : WX) (vs : List Nat) (tg : List Expr) (g : GXs) : Prop := ∀ ω, PGs X tg (trGsw X.K X.mg W vs ω g)
section
variable {X : Cx} {W : WX} {vs : List Nat} {pos : Pos}
theorem gw_name {i : Nat} {x : Str} (hN : X.N.Nodup) (hi : X.N[i]? = some x := by rfl) (hx : Loc X.env.scope x := by first | exact Or.inl rfl | exact Or.inr rfl) (hf : X.fn x = true ∨ X.env.scope.names.lookup x = some .local := by first | exact .inl rfl | exact .inr rfl) (hv : i ∈ vs := by decide) : EGw X W vs (.Name x pos) (gSet i) := fun ω =>
  PG.imp (pg_name hN hi hx hf) fun v σ H Q ⟨ρ, S, sl, d, w, rs, rv, ew, p⟩ => p _ ρ H Ext.refl w (rs.set rv i) (by rw [wipe_set hv]; exact ew)
theorem gsw_nil : EGsw X W vs [] gNilX := fun ω => PGs.imp pgs_nil fun v σ H Q ⟨ρ, S, sl, ds, w, rs, rv, ew, p⟩ => by
  cases ds with
  | nil =>
    rw [RepL] at rv
    exact ⟨rv, p _ ρ H Ext.refl w rs ew⟩
  | cons d r => exact p.elim
theorem gsw_cons {t : Expr} {ts : List Expr} {g : GX} {gs : GXs} (h : EGw X W vs t g) (hr : EGsw X W vs ts gs) (hs : (assignEach (t :: ts) X.env).map (·.2) = assign t X.env :: (assignEach ts X.env).map (·.2) := by rfl) : EGsw X W vs (t :: ts) (gConsX g gs) := fun ω =>
  PGs.imp (pgs_cons (h ω) (hr ω) hs) fun v σ H Q ⟨ρ, S, sl, ds, w, rs, rv, ew, p⟩ => by
    cases ds with
    | nil => exact p.elim
    | cons d r =>
      rw [RepL] at rv
      obtain ⟨v1, vr, e, h1, h2⟩ := rv
      subst e
      refine ⟨v1, vr, rfl, ρ, S, sl, d, w, rs, h1, ew, ?_⟩
      have p : PostS X.K X.mg W ρ H ⟨fun σ' H' => L2.wipe σ' vs = ω → Q σ' H', fun _ _ => False, fun _ _ => False, fun _ _ => False⟩ ((g d sl S).then (gs r)) := p
      cases q : g d sl S with
      | nx sl1 S1 =>
        rw [q] at p
        exact fun σ1 ρ1 H1 x1 w1 r1 e1 => ⟨ρ1, S1, sl1, r, w1, r1, h2.ext x1, e1, PostS.from x1 p⟩
      | bk sl1 S1 => rw [q] at p; exact p
      | ct sl1 S1 => rw [q] at p; exact p
      | rt d1 S1 => rw [q] at p; exact p
      | ex e1 sl1 S1 => rw [q] at p; exact p
      | bad => rw [q] at p; exact p
theorem gw_tup {es : List Expr} {k : Nat} {gs : GXs} {n : Nat} (hc : X.calm = true) (h : EGsw X W vs es gs) (hl : ∀ ds sl S, gs ds sl S ≠ .bad → ds.length = n) (hn : (assignEach es X.env).length = n := by rfl) (hst : (assignEach es X.env).findIdx? (·.1) = none := by rfl) : EGw X W vs (.Tuple es k pos) (gTupX gs) := fun ω =>
  PG.imp (pg_tup hc (h ω) hn hst) fun v σ H Q ⟨ρ, S, sl, d, w, rs, rv, ew, p⟩ => by
    cases d with
    | tup ds =>
      rw [Rep] at rv
      obtain ⟨a, us, e, t, r⟩ := rv
      have p : PostS X.K X.mg W ρ H ⟨fun σ' H' => L2.wipe σ' vs = ω → Q σ' H', fun _ _ => False, fun _ _ => False, fun _ _ => False⟩ (gs ds sl S) := p
      exact ⟨a, us, e, t.sq, by rw [← r.len]; exact hl ds sl S (fun q => by rw [q] at p; exact p), ρ, S, sl, ds, w, rs, r, ew, p⟩
    | _ => exact p.elim
/-! ### the tests -/
def bTrue : BX := fun _ S => .ok true S
def ETs (X : Cx) (W : WX) (ifs : List Expr) (f : BX) : Prop := PTs X ifs (trB X.K X.mg W f)
theorem PTs.imp {ifs : List Expr} {t t' : TT} (h : PTs X ifs t) (k : ∀ σ H Q, t' σ H Q → t σ H Q) : PTs X ifs t' := ⟨fun pins s σ H Q I q => h.run pins s σ H Q I (k σ H Q q)⟩
theorem ts_nil : ETs X W [] bTrue := PTs.imp pts_nil fun σ H Q ⟨ρ, S, sl, w, rs, p⟩ => p ρ H Ext.refl w
end
/-! ### the loop -/
def WF : WX := fun _ _ _ _ => False
noncomputable def lcL (G : Store → Prop) (g : GX) (bt : BX) (fe : EX) (n : Nat) (sl : Sl) : List D → Store → Out Unit
  | [], S => open Classical in if G S then .ok () S else .bad
  | x :: xs, S => open Classical in if G S then (match g x sl S with
    | .nx sl1 S1 => (match bt sl1 S1 with
      | .ok true S2 => (match fe sl1 S2 with
        | .ok d S3 => (match S3[n]? with
          | some (.lst acc) => if acc.length < 1000000 then lcL G g bt fe n sl xs (S3.set n (.lst (acc ++ [d]))) else .bad
          | _ => .bad)
        | _ => .bad)
      | .ok false S2 => lcL G g bt fe n sl xs S2
      | _ => .bad)
    | _ => .bad) else .bad
/-- [fe for g in it if bt]: a new list by a handle -/
noncomputable def eLc (it : IX) (g : GX) (bt : BX) (fe : EX) (own : List Nat) : EX := fun sl S => (it sl S).bind fun p S1 => (lcL p.2 g bt fe S1.length (wipeS sl own) p.1 (S1 ++ [.lst []])).bind fun _ S2 => .ok (.ptr S1.length) S2
section
variable {X : Cx} {W : WX} {pos : Pos}
theorem lc_imp {it : IX} {g : GX} {bt : BX} {fe : EX} {own : List Nat} {K : PySem.W.Frag} {mg : Str → Option Value} {σ : L2.St} {H : Hp} {Q : VK} (h : trE K mg W (eLc it g bt fe own) σ H Q) :
    tLc (trI K mg W it) (trGw K mg WF own (L2.wipe σ own) g) (trB K mg WF bt) (trE K mg WF fe) own σ H Q := by
  obtain ⟨ρ, S, sl, w, rs, p⟩ := h
  refine ⟨ρ, S, sl, w, rs, ?_⟩
  have p : PostE K mg (fun C d H' => W C d σ H') ρ H Q ((it sl S).bind fun p S1 => (lcL p.2 g bt fe S1.length (wipeS sl own) p.1 (S1 ++ [.lst []])).bind fun _ S2 => .ok (.ptr S1.length) S2) := p
  cases q : it sl S with
  | bad => rw [q] at p; exact p
  | ex e S1 => rw [q] at p; exact p
  | ok pr S1 =>
    rw [q] at p
    obtain ⟨xs, G⟩ := pr
    intro ρ1 H1 J x1 w1 iw D hD
    have p1 : PostE K mg (fun C d H' => W C d σ H') ρ1 H1 Q ((lcL G g bt fe S1.length (wipeS sl own) xs (S1 ++ [.lst []])).bind fun _ S2 => .ok (.ptr S1.length) S2) := PostE.from x1 p
    have x2 : Ext ρ1 H1 (ρ1 ++ [D]) (upd H1 D (.lst [])) := Ext.hand hD
    have w2 : WOk K mg (ρ1 ++ [D]) (upd H1 D (.lst [])) (S1 ++ [.lst []]) := w1.hand hD ⟨[], upd_same, RepL.nil⟩
    have rw' : RSt K mg (ρ1 ++ [D]) (upd H1 D (.lst [])) (L2.wipe σ own) (wipeS sl own) := ((rs.ext x1).ext x2).wipe own
    have hDn : (ρ1 ++ [D])[S1.length]? = some D := by rw [← w1.len]; simp
    refine ⟨fun i m H' => i + m = xs.length ∧ ∃ ρ' S', Ext (ρ1 ++ [D]) (upd H1 D (.lst [])) ρ' H' ∧ WOk K mg ρ' H' S' ∧ PostE K mg (fun C d H' => W C d σ H') ρ' H' Q ((lcL G g bt fe S1.length (wipeS sl own) (xs.drop i) S').bind fun _ S2 => .ok (.ptr S1.length) S2),
      ⟨xs.length, by simp, ρ1 ++ [D], _, Ext.refl, w2, PostE.from x2 (by simpa using p1)⟩, ?_⟩
    rintro i m H3 ⟨hm, ρ3, S3, x3, w3, p3⟩
    cases m with
    | zero =>
      have hi : i = xs.length := by omega
      subst hi
      rw [List.drop_length, lcL] at p3
      by_cases hG : G S3
      · rw [if_pos hG] at p3
        refine .inl ⟨iw.stop ρ3 H3 S3 (x2.trans x3) w3 hG, ?_⟩
        exact post_ok (d := .ptr S1.length) p3 w3 (by rw [Rep]; exact ⟨D, rfl, x3.get hDn⟩)
      · rw [if_neg hG] at p3; exact p3.elim
    | succ m =>
      have hlt : i < xs.length := by omega
      have hd : xs.drop i = xs[i] :: xs.drop (i + 1) := (List.getElem_cons_drop hlt).symm
      rw [hd, lcL] at p3
      by_cases hG : G S3
      · rw [if_pos hG] at p3
        refine .inr ⟨iw.go i ρ3 H3 S3 hlt (x2.trans x3) w3 hG, fun H' => ∃ ρ' S', Ext (ρ1 ++ [D]) (upd H1 D (.lst [])) ρ' H' ∧ WOk K mg ρ' H' S' ∧ PostE K mg (fun C d H' => W C d σ H') ρ' H' Q ((lcL G g bt fe S1.length (wipeS sl own) (xs.drop (i + 1)) S').bind fun _ S2 => .ok (.ptr S1.length) S2), fun H' n => ⟨m, Nat.lt_succ_self m, by omega, n⟩, ?_⟩
        intro v H4 y
        obtain ⟨d, e, x4, w4, r4⟩ := iw.yld i ρ3 H3 S3 v H4 hlt (x2.trans x3) w3 hG y
        have ed : d = xs[i] := by rw [List.getElem?_eq_getElem hlt] at e; exact (Option.some.inj e).symm
        subst ed
        refine ⟨ρ3, S3, wipeS sl own, xs[i], w4, (rw'.ext (x3.trans x4)), r4, wipe_wipe (fun _ h => h), ?_⟩
        cases q1 : g xs[i] (wipeS sl own) S3 with
        | nx sl5 S5 =>
          rw [q1] at p3
          simp only at p3
          intro σ5 ρ5 H5 x5 w5 r5 e5
          refine ⟨e5, ρ5, S5, sl5, w5, r5, ?_⟩
          have x35 := (x3.trans x4).trans x5
          have p5 := PostE.from (x4.trans x5) p3
          cases q2 : bt sl5 S5 with
          | bad => rw [q2] at p5; exact p5.elim
          | ex e S6 => rw [q2] at p5; exact p5.elim
          | ok b S6 =>
            rw [q2] at p5
            intro ρ6 H6 x6 w6
            have p6 := PostE.from x6 p5
            cases b with
            | false =>
              rw [if_neg Bool.false_ne_true]
              exact ⟨ρ6, S6, x35.trans x6, w6, p6⟩
            | true =>
              rw [if_pos rfl]
              refine ⟨ρ6, S6, sl5, w6, r5.ext x6, ?_⟩
              simp only at p6
              cases q3 : fe sl5 S6 with
              | bad => rw [q3] at p6; exact p6.elim
              | ex e S7 => rw [q3] at p6; exact p6.elim
              | ok d7 S7 =>
                rw [q3] at p6
                intro v7 ρ7 H7 x7 w7 r7
                have p7 := PostE.from x7 p6
                simp only at p7
                have x37 := (x35.trans x6).trans x7
                have hDn7 := x37.get hDn
                split at p7
                · rename_i acc ea
                  split at p7
                  · rename_i hl
                    obtain ⟨us, h1, ra⟩ := w7.ob S1.length D _ hDn7 ea
                    refine ⟨us, h1, by rw [← ra.len]; have := line_of (n := acc.length + 1) (by omega); omega, ?_⟩
                    have hx : Ext ρ7 H7 ρ7 (upd H7 D (.lst (us ++ [v7]))) := Ext.putL hDn7
                    exact ⟨ρ7, _, x37.trans hx, w7.put (m := .lst (acc ++ [d7])) hDn7 ⟨_, upd_same, (ra.append (RepL.cons r7 RepL.nil)).ext hx⟩, PostE.from hx p7⟩
                  · exact p7.elim
                · exact p7.elim
        | bk sl4 S4 => rw [q1] at p3; exact p3.elim
        | ct sl4 S4 => rw [q1] at p3; exact p3.elim
        | rt d4 S4 => rw [q1] at p3; exact p3.elim
        | ex e4 sl4 S4 => rw [q1] at p3; exact p3.elim
        | bad => rw [q1] at p3; exact p3.elim
      · rw [if_neg hG] at p3; exact p3.elim
variable {elt tg iter : Expr} {ifs : List Expr} {scope : Scope} {own : List (Str × Nat)} {it : IX} {g : GX} {bt : BX} {fe : EX}
theorem tLc_mono {wi : TI} {g1 g2 : TG} {tt : TT} {te : TE} {vs : List Nat} {σ : L2.St} {H : Hp} {Q : VK} (k : ∀ x H' Q', g1 x (L2.wipe σ vs) H' Q' → g2 x (L2.wipe σ vs) H' Q') (kw : ∀ H R R', (∀ J H1, R J H1 → R' J H1) → wi σ H R → wi σ H R') (h : tLc wi g1 tt te vs σ H Q) : tLc wi g2 tt te vs σ H Q := by
  refine kw H _ _ (fun J H1 h D hD => ?_) h
  obtain ⟨W, h0, hs⟩ := h D hD
  refine ⟨W, h0, fun i m H' hw => ?_⟩
  rcases hs i m H' hw with h | ⟨hg, Nx, h1, h2⟩
  · exact .inl h
  · exact .inr ⟨hg, Nx, h1, fun x H2 y => k _ _ _ (h2 x H2 y)⟩
/-- targets for every state's rest -/
def trGa (K : PySem.W.Frag) (mg : Str → Option Value) (W : WX) (vs : List Nat) (g : GX) : TG := fun v σ H Q => trGw K mg W vs (L2.wipe σ vs) g v σ H Q
theorem EGw.all {X : Cx} {W : WX} {vs : List Nat} {tg : Expr} {g : GX} (h : EGw X W vs tg g) : PG X tg (trGa X.K X.mg W vs g) := ⟨fun pins s σ H v u Q I r q => (h (L2.wipe σ vs)).run pins s σ H v u Q I r q⟩
theorem trI_mono {K : PySem.W.Frag} {mg : Str → Option Value} {it : IX} {σ : L2.St} (H : Hp) (R R' : It → Hp → Prop) (k : ∀ J H1, R J H1 → R' J H1) (h : trI K mg W it σ H R) : trI K mg W it σ H R' := by
  obtain ⟨ρ, S, sl, w, rs, p⟩ := h
  refine ⟨ρ, S, sl, w, rs, ?_⟩
  cases q : it sl S with
  | bad => rw [q] at p; exact p
  | ex e S1 => rw [q] at p; exact p
  | ok pr S1 => rw [q] at p; exact fun ρ' H' J x w i => k _ _ (p ρ' H' J x w i)
theorem lc_imp' {K : PySem.W.Frag} {mg : Str → Option Value} {vs : List Nat} {σ : L2.St} {H : Hp} {Q : VK} (h : trE K mg W (eLc it g bt fe vs) σ H Q) : tLc (trI K mg W it) (trGa K mg WF vs g) (trB K mg WF bt) (trE K mg WF fe) vs σ H Q := by
  refine tLc_mono (fun x H' Q' q => ?_) (fun H R R' k h => trI_mono H R R' k h) (lc_imp h)
  unfold trGa
  rw [wipe_wipe (fun _ h => h)]
  exact q
theorem r_lc (hc : X.calm = true) (hN : X.N.Nodup) (ok : BlkOk X.N X.env.scope scope own) (hi : EI X W tg iter it)
    (hg : ∀ (s : Shared) (H : Hp) (C : Addr) (cl : List (Str × Addr)) (fp : List Addr), EGw (X.blk s H scope (compEnvC scope cl C X.env) fp) WF (own.map (·.2)) tg g) (ht : ∀ (s : Shared) (H : Hp) (C : Addr) (cl : List (Str × Addr)) (fp : List Addr), ETs (X.blk s H scope (compEnvC scope cl C X.env) fp) WF ifs bt)
    (he : ∀ (s : Shared) (H : Hp) (C : Addr) (cl : List (Str × Addr)) (fp : List Addr), E (X.blk s H scope (compEnvC scope cl C X.env) fp) WF elt fe) (hs : ∀ x, foldedSetIterable iter X.env x = pure x := by intro _; rfl) :
    E X W (.ListComp elt [⟨tg, iter, ifs, 0⟩] scope pos) (eLc it g bt fe (own.map (·.2))) :=
  PE.imp (pe_lc (tt := trB X.K X.mg WF bt) (te := trE X.K X.mg WF fe) hc hN hi ok (fun s H C cl fp => (hg s H C cl fp).all) ht he hs) fun σ H Q h => lc_imp' h
/-! ### an expression whose handles are given up -/
noncomputable def eFin (f : EX) : EX := fun sl S => fin S (f sl S)
theorem r_fin {e : Expr} {f : EX} (h : E X W e f) : E X W e (eFin f) := PE.imp h fun σ H Q ⟨ρ, S, sl, w, rs, p⟩ => ⟨ρ, S, sl, w, rs, fin_imp w p⟩
end
end Z
/-! ZB: sorted. -/
namespace Z
open PySem PySem.Spec L2 PyProof.Rows Za PySem.W
section
variable {X : Cx}
def signsS (x : Str) : List Str := x.cps.toList.map fun c => ⟨#[c]⟩
end
end Z
/-! ZC: defs, methods, classes, properties by data. -/
namespace Z
open PySem PySem.Spec L2
/-- a promise on data -/
def spZ (K : PySem.W.Frag) (mg : Str → Option Value) (g : SemL) : Sp := fun vs H Q E => ∃ ρ S ds, WOk K mg ρ H S ∧ RepL K mg ρ H ds vs ∧ PostE K mg E ρ H Q (g ds S)
abbrev FZ (P : Program) (w : World) (K : PySem.W.Frag) (mg : Str → Option Value) (base : Heap) (k : Nat) (f : Addr) (g : SemL) : Prop := FnR P w K mg base (L2.CX P w) k f (spZ K mg g)
/-- a def by its body, what it makes stays open -/
def defH (N : Nat) (body : SX) : SemL := fun ds S => (body (ds.map some ++ List.replicate (N - ds.length) none) S).out
section
variable {P : Program} {w : World} {K : PySem.W.Frag} {mg : Str → Option Value} {base : Heap}
/-- every argument is given -/
def arity (n : Nat) (g : SemL) : SemL := fun ds S => if ds.length = n then g ds S else .bad
theorem fz_of0 {f : Addr} {fd : FuncData} {ps : List Str} {k n : Nat} {g : SemL} (F : FnOk P w K mg base (L2.CX P w) k f fd ps (spOf K mg n g)) (hb : Binds K fd ps []) : FZ P w K mg base k f (arity n g) :=
  (F.raw hb .nil).imp fun vs H Q E ⟨ρ, S, ds, w0, r, p⟩ => by
    unfold arity at p
    split at p
    · rename_i hl
      exact ⟨ρ, S, ds, hl, w0, by rw [List.append_nil]; exact r, p⟩
    · exact p.elim
end
/-! ### calls -/
theorem takesF {X : Cx} : Takes X WF := fun u s' ⟨_, _, _, _, _, _, _, _, _, _, _, _, _, _, _, _, w⟩ => w.elim
section
variable {X : Cx} {W : WX} {k : Nat} {f C : Addr} {g : SemL} {x m : Str} {p pos apos : Pos} {e o : Expr} {es : List Expr} {fa : AX} {fo fe : EX}
theorem run_fnR {pins : List (Addr × Obj)} {σ : L2.St} {H : Hp} {s : Shared} {Q : VK} {us : List Value} {vs : List V} {sp : Sp} {E : XK} (F : FnR X.prog X.w X.K X.mg X.base (L2.CX X.prog X.w) k f sp) (hr : Room k X.A) (hx : PassesAt (L2.CX X.prog X.w) X σ E) (I : Inv X pins σ H s) (r : Vals vs us) (h : sp vs H Q E) :
    wpAny (model X.prog X.w) X.A (PySem.call (.ref f) us) (EP X pins σ Q) X.xe s := by
  refine wpAny_call (codeAny_mono (F X.A X.stack s H us vs Q E hr I.env0 r h) fun r s' hq => ?_)
  cases r with
  | error e => exact hx pins H s e s' I hq
  | ok fl =>
    cases fl with
    | ret u => exact I.after hq
    | next => exact False.elim hq
    | brk => exact False.elim hq
    | cont => exact False.elim hq
theorem r_callZ (tk : Takes X W) (F : FZ X.prog X.w X.K X.mg X.base k f g) (hr : Room k X.A) (hm : X.mg x = some (.ref f)) (hk : PySem.W.keepIn X.K (.ref f) = true)
    (ha : EA X W (e :: es) fa) (hg : Gl X x := by rfl) (hdb : (x == ("__debug__" : Str)) = false := by decide) (he : starEach (e :: es) X.env = (false, eval e X.env) :: starEach es X.env := by rfl) (hpl : (backTo pos (starEach es X.env)).any (·.1) = false := by rfl) :
    E X W (.Call (.Name x p) (e :: es) [] pos) (eArgs g fa) := by
  refine ⟨fun pins s σ H Q I h => ?_⟩
  refine wpAny_Call_Name_kw (ld_glob I hg hm ?_ hdb)
  have h' := argsem_imp (k := fun vs H1 => spZ X.K X.mg g vs H1 Q (WE W σ)) h fun ρ S H1 ds vs w r p => ⟨ρ, S, ds, w, r, p⟩
  refine PySem.W.callWith_K (h₀ := X.base) I.ok.mod.kin hk (thn (ha.run pos pins s σ H _ I h') fun us s1 ⟨vs, H1, I1, r, q⟩ => ⟨I1.kIn, ?_⟩) he hpl
  exact run_fnR F hr (passAt tk σ) I1 r q
/-- a table by a class's name -/
def tabOf (tab : List (Str × SemL)) (c : Str) : Option SemL := tab.lookup c
def eMethZ (m : Str) (tab : List (Str × SemL)) (fo : EX) (fa : AX) : EX := fun sl S => (fo sl S).bind fun d S1 => match fldsOf S1 d with
  | some (c, ns, _) => if m ∈ ns then .bad else (match tabOf tab c with
    | some g => (fa sl S1).bind fun ds S2 => g (d :: ds) S2
    | none => .bad)
  | none => .bad
/-! ### making -/
/-! ### o.f = v -/
def putN (f : Str) (d : D) : List Str → List D → List Str × List D
  | n :: ns, v :: vs => if n = f then (n :: ns, d :: vs) else (n :: (putN f d ns vs).1, v :: (putN f d ns vs).2)
  | _, _ => ([f], [d])
def setF (cs : List Str) (f : Str) (o v : D) (S : Store) : Option Store := match o with
  | .ptr n => (match S[n]? with
    | some (.ins c ns vs) => if c ∈ cs ∧ ns.length < 1000 then some (S.set n (.ins c (putN f v ns vs).1 (putN f v ns vs).2)) else none
    | _ => none)
  | _ => none
def sFldZ (cs : List Str) (f : Str) (fv fo : EX) : SX := fun sl S => (fv sl S).toS sl fun v S1 => (fo sl S1).toS sl fun o S2 => match setF cs f o v S2 with
  | some S3 => .nx sl S3
  | none => .bad
/-! ### o.f by class: a field, a property, a constant -/
inductive AtK where
  | fld
  | prop (g : SemL)
  | con (d : D)
def eAttrZ (f : Str) (tab : List (Str × AtK)) (fo : EX) : EX := fun sl S => (fo sl S).bind fun d S1 => match fldsOf S1 d with
  | some (c, ns, vs) => (match tab.lookup c with
    | some .fld => (match lookN f ns vs with
      | some v => .ok v S1
      | none => .bad)
    | some (.prop g) => (match g [d] S1 with
      | .ok v S2 => .ok v S2
      | _ => .bad)
    | some (.con v) => if f ∈ ns then .bad else .ok v S1
    | none => .bad)
  | none => .bad
end
end Z
/-! ZD: what the printed derivations use. -/
namespace Z
open PySem PySem.Spec L2
section
variable {X : Cx}
def addX : Sem2 := orS2 addI (orS2 addS (orS2 addL addT))
theorem d_addX : OpD X (binaryOp .Add) addX := d_addI.or (d_addS.or (d_addL.or d_addT))
def mulX : Sem2 := orS2 mulI mulL
theorem d_mulX : OpD X (binaryOp .Mult) mulX := d_mulI.or d_mulL
def ltX : Sem2 := orS2 ltI ltS
theorem d_ltX : OpD X (compareOp .Lt) ltX := d_ltI.or d_ltS
def inX : Sem2 := orS2 (inSg false) (orS2 (inDct false) (inSq false))
def ninX : Sem2 := orS2 (inSg true) (orS2 (inDct true) (inSq true))
theorem d_inX (hu : X.A.units + 64 < cLine) : OpD X (compareOp .In) inX := d_inSg.or ((d_inDct (Nat.lt_of_le_of_lt (Nat.add_le_add_left (by decide : 1 ≤ 64) _) hu)).or d_inSq)
def ixX : Sem2 := orS2 ixSeq ixDct
theorem d_ixX (hu : X.A.units + 64 < cLine) : IxD X ixX := d_ixSeq.or (d_ixDct (Nat.lt_of_le_of_lt (Nat.add_le_add_left (by decide : 1 ≤ 64) _) hu))
def lenX : SemL := orSL semLen semLenD
theorem d_lenX : CallD X (.builtin "len") lenX := d_len.or d_lenD
def isiX : SemL := orSL semIsi semIsiT
theorem d_isiX : CallD X (.builtin "isinstance") isiX := d_isi.or d_isiT
theorem hu1 {A : Around} (hu : A.units + 64 < cLine) : A.units + 1 < cLine := Nat.lt_of_le_of_lt (Nat.add_le_add_left (by decide : 1 ≤ 64) _) hu
end
/-! ### name = [..], frozen -/
section
variable {X : Cx} {W : WX} {pos : Pos} {elt tg iter : Expr} {ifs : List Expr} {scope : Scope} {own : List (Str × Nat)} {it : IX} {g : GX} {bt : BX} {fe : EX}
theorem s_setLcF {i : Nat} {y : Str} {py spos : Pos} (hc : X.calm = true) (hN : X.N.Nodup) (ok : BlkOk X.N X.env.scope scope own)
    (hsw : swapsWith (.ListComp elt [⟨tg, iter, ifs, 0⟩] scope pos) (some (.Name y py)) spos.line X.env = pure true) (hi : EI X W tg iter it)
    (hg : ∀ (s : Shared) (H : Hp) (C : Addr) (cl : List (Str × Addr)) (fp : List Addr), EGw (X.blk s H scope (compEnvC scope cl C X.env) fp) WF (own.map (·.2)) tg g) (ht : ∀ (s : Shared) (H : Hp) (C : Addr) (cl : List (Str × Addr)) (fp : List Addr), ETs (X.blk s H scope (compEnvC scope cl C X.env) fp) WF ifs bt)
    (he : ∀ (s : Shared) (H : Hp) (C : Addr) (cl : List (Str × Addr)) (fp : List Addr), E (X.blk s H scope (compEnvC scope cl C X.env) fp) WF elt fe) (hy : X.N[i]? = some y := by rfl) (hyl : X.env.scope.names.lookup y = some .local := by rfl) (hs : ∀ x, foldedSetIterable iter X.env x = pure x := by intro _; rfl) :
    ES X W (.Assign [.Name y py] (.ListComp elt [⟨tg, iter, ifs, 0⟩] scope pos) spos) (sAsg (eFin (eLc it g bt fe (own.map (·.2)))) (gSet i)) :=
  PS.imp (ps_setLc (tt := trB X.K X.mg WF bt) (te := trE X.K X.mg WF fe) hc hN hy hyl hsw hi ok (fun s H C cl fp => (hg s H C cl fp).all) ht he hs) fun D σ H ⟨ρ, S, sl, w, rs, p⟩ =>
    lc_imp' (Q := fun x H1 => gName i x σ H1 D.nx) ⟨ρ, S, sl, w, rs, fin_imp w (PostE.mono (PostS.ofE (o := eFin (eLc it g bt fe (own.map (·.2))) sl S) rs p) fun v H1 ⟨ρ1, S1, d, w1, r1, rv, p1⟩ => p1 _ ρ1 H1 Ext.refl w1 (r1.set rv i))⟩
end
/-! ### globals that are constants -/
/-! ### targets that end -/
def NxB (g : GX) : Prop := ∀ d sl S, (∃ sl' S', g d sl S = .nx sl' S') ∨ g d sl S = .bad
theorem len_consN {g : GX} {gs : GXs} {n : Nat} (hg : NxB g) (hr : ∀ ds sl S, gs ds sl S ≠ .bad → ds.length = n) : ∀ ds sl S, gConsX g gs ds sl S ≠ .bad → ds.length = n + 1 := len_cons hr hg
/-! ### name op= e, ints -/
def sAug (i : Nat) (op : Int → Int → Int) (fe : EX) : SX := fun sl S => match sl[i]? with
  | some (some (.int a)) => (fe sl S).toS sl fun e S1 => (match e with
    | .int b => .nx (sl.set i (some (.int (op a b)))) S1
    | _ => .bad)
  | _ => .bad
/-! ### tables -/
theorem fz_bad {P : Program} {w : World} {K : PySem.W.Frag} {mg : Str → Option Value} {base : Heap} {k : Nat} {f : Addr} : FZ P w K mg base k f (fun _ _ => .bad) := fun A outer s H us vs Q E hr e0 r ⟨_, _, _, _, _, p⟩ => p.elim
/-! ### the law's end -/
theorem cx_false {P : Program} {w : World} {outer : List Env} {H : Hp} {s : Shared} {e : Value} {s' : Shared} (h : L2.CX P w outer H s (fun _ _ _ => False) e s') : False := by
  obtain ⟨_, _, _, _, _, _, _, _, _, _, _, _, z⟩ := h
  exact z
theorem law_end {K : PySem.W.Frag} {mg : Str → Option Value} {H : Hp} {a : Addr} {ns : List Int} {g : SemL} (hS : SqL K H a (ns.map V.int)) (h : ∃ S, g [.scr ns] [] = .ok (.bl true) S) : spOf K mg 1 g [.ref a] H (fun v _ => v = .bl true) fun _ _ _ => False := by
  obtain ⟨S, e⟩ := h
  refine ⟨[], [], [.scr ns], rfl, ⟨rfl, List.nodup_nil, by simp, by simp⟩, RepL.cons ?_ RepL.nil, ?_⟩
  · rw [Rep]
    refine ⟨a, rfl, ?_⟩
    rcases hS with h | h
    · exact .inl ⟨by simp, h⟩
    · exact .inr h
  · rw [e]
    exact fun v ρ' H' _ _ r => rep_bl r
def spLaw (K : PySem.W.Frag) : Sp := fun vs H Q _ => ∃ (a : Addr) (ns : List Int), vs = [.ref a] ∧ SqL K H a (ns.map V.int) ∧ ns.length ≤ 63 ∧ ∀ H', Q (.bl true) H'
theorem law_fn {P : Program} {w : World} {K : PySem.W.Frag} {mg : Str → Option Value} {base : Heap} {k : Nat} {f : Addr} {fd : FuncData} {ps : List Str} {g : SemL} (F : FnOk P w K mg base (L2.CX P w) k f fd ps (spOf K mg 1 g)) (h : ∀ ns : List Int, ns.length ≤ 63 → ∃ S, g [.scr ns] [] = .ok (.bl true) S) :
    FnOk P w K mg base (L2.CX P w) k f fd ps (spLaw K) := F.imp fun vs H Q E ⟨a, ns, ev, hS, hl, q⟩ => by
  subst ev
  obtain ⟨ρ, S, ds, h1, h2, h3, h4⟩ := law_end (mg := mg) (H := H) hS (h ns hl)
  obtain ⟨S', e⟩ := h ns hl
  refine ⟨[], [], [.scr ns], rfl, ⟨rfl, List.nodup_nil, by simp, by simp⟩, RepL.cons ?_ RepL.nil, ?_⟩
  · rw [Rep]
    refine ⟨a, rfl, ?_⟩
    rcases hS with h | h
    · exact .inl ⟨by simp, h⟩
    · exact .inr h
  · rw [e]
    exact fun v ρ' H' _ _ r => by rw [rep_bl r]; exact q H'
theorem walkZ {l : PySem.W.OpenLaw} {q : Program} {loose : List Str} {XP : (Str → Option Value) → Heap → Prop} {YP : World → Heap → Prop} {d : DefRec} {K : Params → PySem.W.Frag} {k : Nat} {x : Str} (hn : l.most = some 63) (hdf : d.params.defaults = []) (hr : Room k callerA)
    (hY : ∀ (w : World) (h : Heap), YP w h → (K w.params).In h)
    (F : ∀ (w : World) (mg : Str → Option Value) (fa : Addr) (h : Heap), (K w.params).In h → h.Ns mainGlobals mg → mg d.name = some (.ref fa) →
      ∃ fd : FuncData, (∀ (s : Shared) (u : Value), BindsTo s fd ⟨[u], []⟩ [(x, u)]) ∧ ∀ base : Heap, (K w.params).In base → base.Ns mainGlobals mg → FnOk l.prog w (K w.params) mg base (L2.CX l.prog w) k fa fd [x] (spLaw (K w.params))) :
    PySem.W.WalkO q loose XP YP l.row.toRowW d [] (fun f vs => PySem.call f vs) :=
  L2.walk_of (n := 63) (k := k) (x := x) (CX := fun w => L2.CX l.prog w) (sp := fun w => spLaw (K w.params)) hn (by decide) hdf hr hY F (fun _ _ a ns hl _ hS => ⟨a, ns, rfl, hS, hl, fun _ => rfl⟩) fun _ _ _ _ _ z => cx_false z
end Z
/-! ZE: how the mirrors compute: plain equations. -/
namespace Z
open PySem PySem.Spec L2
@[simp] theorem bind_ok {α β : Type} (a : α) (S : Store) (k : α → Store → Out β) : (Out.ok a S).bind k = k a S := (rfl)
@[simp] theorem bind_bad {α β : Type} (k : α → Store → Out β) : (Out.bad : Out α).bind k = .bad := (rfl)
@[simp] theorem toS_ok {α : Type} (a : α) (S : Store) (sl : Sl) (k : α → Store → SO) : (Out.ok a S).toS sl k = k a S := (rfl)
@[simp] theorem toS_bad {α : Type} (sl : Sl) (k : α → Store → SO) : (Out.bad : Out α).toS sl k = .bad := (rfl)
@[simp] theorem then_nx (sl : Sl) (S : Store) (g : SX) : (SO.nx sl S).then g = g sl S := (rfl)
@[simp] theorem then_rt (d : D) (S : Store) (g : SX) : (SO.rt d S).then g = .rt d S := (rfl)
@[simp] theorem then_bk (sl : Sl) (S : Store) (g : SX) : (SO.bk sl S).then g = .bk sl S := (rfl)
@[simp] theorem then_ct (sl : Sl) (S : Store) (g : SX) : (SO.ct sl S).then g = .ct sl S := (rfl)
@[simp] theorem out_rt (d : D) (S : Store) : (SO.rt d S).out = .ok d S := (rfl)
@[simp] theorem out_nx (sl : Sl) (S : Store) : (SO.nx sl S).out = .ok .non S := (rfl)
@[simp] theorem shaped_int (i : Int) : SeqAt.shaped (.int i) = true := by simp [SeqAt.shaped, PyData.canLay0, PyData.depth]
theorem shaped_str {i : Str} (h : PyData.strOk i = true) : SeqAt.shaped (.str i) = true := by simp [SeqAt.shaped, PyData.canLay0, PyData.depth, h]
@[simp] theorem shaped_bool (i : Bool) : SeqAt.shaped (.bool i) = true := by simp [SeqAt.shaped, PyData.canLay0, PyData.depth]
@[simp] theorem eqD_int (i j : Int) (S : Store) : eqD false (.int i) (.int j) S = .ok (.bl (decide (i = j))) S := by
  simp [eqD, toP, toP0, PyData.eqv]
  rfl
@[simp] theorem neD_int (i j : Int) (S : Store) : eqD true (.int i) (.int j) S = .ok (.bl (!decide (i = j))) S := by
  simp [eqD, toP, toP0, PyData.eqv]
  rfl
@[simp] theorem addX_int (i j : Int) (S : Store) : addX (.int i) (.int j) S = .ok (.int (i + j)) S := (rfl)
@[simp] theorem subI_int (i j : Int) (S : Store) : subI (.int i) (.int j) S = .ok (.int (i - j)) S := (rfl)
@[simp] theorem ltX_int (i j : Int) (S : Store) : ltX (.int i) (.int j) S = .ok (.bl (decide (i < j))) S := (rfl)
@[simp] theorem leI_int (i j : Int) (S : Store) : leI (.int i) (.int j) S = .ok (.bl (decide (i ≤ j))) S := (rfl)
@[simp] theorem gtI_int (i j : Int) (S : Store) : gtI (.int i) (.int j) S = .ok (.bl (decide (j < i))) S := (rfl)
@[simp] theorem geI_int (i j : Int) (S : Store) : geI (.int i) (.int j) S = .ok (.bl (decide (j ≤ i))) S := (rfl)
theorem modI_int {i j : Int} (h : 0 < j) (S : Store) : modI (.int i) (.int j) S = .ok (.int (i % j)) S := by simp [modI, iiC, h]
theorem divI_int {i j : Int} (h : 0 < j) (h2 : j.natAbs.log2 < 9000) (S : Store) : divI (.int i) (.int j) S = .ok (.int (i / j)) S := by simp [divI, iiC, divB, h, h2]
theorem mulX_int {i j : Int} (h : i.natAbs.log2 + j.natAbs.log2 < 1000000) (S : Store) : mulX (.int i) (.int j) S = .ok (.int (i * j)) S := by
  simp [mulX, orS2, mulI, iiC, mulB, h]
theorem ix_ptr {S : Store} {n : Nat} {xs : List D} {i : Int} (h : S[n]? = some (.lst xs)) : ixX (.ptr n) (.int i) S = match atI xs i with
    | some x => .ok x S
    | none => .bad := by
  simp only [ixX, orS2, ixSeq, asS, asL, h]
  cases e : atI xs i with
  | some x => rfl
  | none => simp [ixDct, asD, h]
theorem ix_lst {S : Store} {xs : List D} {i : Int} : ixX (.lst xs) (.int i) S = match atI xs i with
    | some x => .ok x S
    | none => .bad := by
  simp only [ixX, orS2, ixSeq, asS, asL]
  cases e : atI xs i with
  | some x => rfl
  | none => simp [ixDct, asD]
theorem ix_tup {S : Store} {xs : List D} {i : Int} : ixX (.tup xs) (.int i) S = match atI xs i with
    | some x => .ok x S
    | none => .bad := by
  simp only [ixX, orS2, ixSeq, asS]
  cases e : atI xs i with
  | some x => rfl
  | none => simp [ixDct, asD]
/-! ### stores that only differ in what speaks of the old -/
structure Keep (S S1 : Store) : Prop where
  len : S1.length = S.length
  at_ : ∀ (i : Nat) (m : MO), S1[i]? = some m → S[i]? = some m ∨ underM S.length m = true
theorem Keep.refl (S : Store) : Keep S S := ⟨rfl, fun i m h => .inl h⟩
theorem Keep.trans {S S1 S2 : Store} (h : Keep S S1) (h' : Keep S1 S2) : Keep S S2 := ⟨h'.len.trans h.len, fun i m e => by
  rcases h'.at_ i m e with q | q
  · exact h.at_ i m q
  · rw [h.len] at q; exact .inr q⟩
theorem Keep.set {S : Store} {n : Nat} {m : MO} (h : underM S.length m = true) : Keep S (S.set n m) := ⟨by simp, fun i m' e => by
  by_cases q : n = i
  · subst q
    by_cases hi : n < S.length
    · rw [List.getElem?_set_self hi] at e
      cases e
      exact .inr h
    · rw [List.getElem?_eq_none (by simpa using hi)] at e; cases e
  · rw [List.getElem?_set_ne q] at e
    exact .inl e⟩
theorem Keep.closed {S S1 T : Store} (h : Keep S S1) : Closed S (S1 ++ T) := fun i m hi e => by
  rw [List.getElem?_append_left (by rw [h.len]; exact hi)] at e
  exact h.at_ i m e
/-- what has no handles stays -/
theorem frz_of {k : Nat} {S : Store} {f : Nat} {d : D} (h : under k d = true) : frzD (frzP S k f) d = some d := frz_under (fun n hn => frzP_lt hn) d h
theorem frzL_of {k : Nat} {S : Store} {f : Nat} {ds : List D} (h : underL k ds = true) : frzL (frzP S k f) ds = some ds := frz_underL (fun n hn => frzP_lt hn) ds h
theorem frz_lst {S1 : Store} {acc : List D} (h : underL S1.length acc = true) : frzD (frzP (S1 ++ [.lst acc]) S1.length 6) (.ptr S1.length) = some (.lst acc) := by
  rw [frzD, frzP, if_neg (Nat.lt_irrefl _)]
  rw [List.getElem?_append_right (Nat.le_refl _)]
  simp only [Nat.sub_self, List.getElem?_cons_zero]
  rw [frzL_of h]
  rfl
end Z
/-! ZF: what a mirror ends in: rules for plain laws. -/
namespace Z
open PySem PySem.Spec L2
/-! ### texts by their codes -/
abbrev tx (l : List Nat) : Str := ⟨l.toArray⟩
abbrev sg (c : Nat) : D := .str (tx [c])
@[simp] theorem tx_len (l : List Nat) : (tx l).length = l.length := by simp [Str.length]
theorem tx_eta (s : Str) : tx s.cps.toList = s := by cases s; simp [tx]
@[simp] theorem tx_inj {a b : List Nat} : tx a = tx b ↔ a = b := by simp [tx]
@[simp] theorem tx_app (a b : List Nat) : tx a ++ tx b = tx (a ++ b) := by
  show (⟨a.toArray ++ b.toArray⟩ : Str) = _
  simp [tx]
@[simp] theorem signsD_tx (l : List Nat) : signsD (tx l) = l.map sg := by simp [signsD, tx]
@[simp] theorem signsS_tx (l : List Nat) : signsS (tx l) = l.map fun c => tx [c] := by simp [signsS, tx]
/-- d is a bool with k -/
def isB (d : D) (k : Bool → Prop) : Prop := match d with
  | .bl b => k b
  | _ => False
@[simp] theorem isB_bl {b : Bool} {k : Bool → Prop} : isB (.bl b) k = k b := (rfl)
/-- o is something with k -/
def isO {α : Type} (o : Option α) (k : α → Prop) : Prop := match o with
  | some a => k a
  | none => False
@[simp] theorem isO_some {α : Type} {a : α} {k : α → Prop} : isO (some a) k = k a := (rfl)
@[simp] theorem isO_none {α : Type} {k : α → Prop} : isO none k = False := (rfl)
/-! ### ends -/
@[irreducible] def We {α : Type} (o : Out α) (P : α → Store → Prop) (X : D → Store → Prop) : Prop := match o with
  | .ok a S => P a S
  | .ex e S => X e S
  | .bad => False
structure Q0 where
  nx : Sl → Store → Prop
  bk : Sl → Store → Prop
  ct : Sl → Store → Prop
  rt : D → Store → Prop
  ex : D → Sl → Store → Prop
@[irreducible] def Wo (o : SO) (Q : Q0) : Prop := match o with
  | .nx sl S => Q.nx sl S
  | .bk sl S => Q.bk sl S
  | .ct sl S => Q.ct sl S
  | .rt d S => Q.rt d S
  | .ex e sl S => Q.ex e sl S
  | .bad => False
section
variable {α β : Type} {P : α → Store → Prop} {X : D → Store → Prop} {Q : Q0} {S : Store} {sl : Sl}
@[simp] theorem we_ok {a : α} : We (.ok a S) P X = P a S := by unfold We; rfl
@[simp] theorem we_ex {e : D} : We (.ex e S : Out α) P X = X e S := by unfold We; rfl
@[simp] theorem we_bad : We (.bad : Out α) P X = False := by unfold We; rfl
theorem we_bind {o : Out α} {k : α → Store → Out β} {P : β → Store → Prop} : We (o.bind k) P X = We o (fun a S' => We (k a S') P X) X := by cases o <;> simp [Out.bind]
@[simp] theorem wo_nx : Wo (.nx sl S) Q = Q.nx sl S := by unfold Wo; rfl
@[simp] theorem wo_bk : Wo (.bk sl S) Q = Q.bk sl S := by unfold Wo; rfl
@[simp] theorem wo_ct : Wo (.ct sl S) Q = Q.ct sl S := by unfold Wo; rfl
@[simp] theorem wo_rt {d : D} : Wo (.rt d S) Q = Q.rt d S := by unfold Wo; rfl
@[simp] theorem wo_ex {e : D} : Wo (.ex e sl S) Q = Q.ex e sl S := by unfold Wo; rfl
@[simp] theorem wo_bad : Wo .bad Q = False := by unfold Wo; rfl
theorem wo_then {o : SO} {g : SX} : Wo (o.then g) Q = Wo o { Q with nx := fun sl' S' => Wo (g sl' S') Q } := by cases o <;> simp [SO.then]
theorem wo_toS {o : Out α} {k : α → Store → SO} : Wo (o.toS sl k) Q = We o (fun a S' => Wo (k a S') Q) (fun e S' => Q.ex e sl S') := by cases o <;> simp [Out.toS]
theorem We.mono {o : Out α} {P' : α → Store → Prop} {X' : D → Store → Prop} (h : We o P X) (hp : ∀ a S, P a S → P' a S) (hx : ∀ e S, X e S → X' e S) : We o P' X' := by
  cases o with
  | ok a S => rw [we_ok] at h ⊢; exact hp _ _ h
  | ex e S => rw [we_ex] at h ⊢; exact hx _ _ h
  | bad => rw [we_bad] at h; exact h.elim
theorem We.post {o : Out α} {P' : α → Store → Prop} (h : We o P X) (hp : ∀ a S, P a S → P' a S) : We o P' X := h.mono hp fun _ _ q => q
theorem Wo.mono {o : SO} {Q' : Q0} (h : Wo o Q) (h1 : ∀ sl S, Q.nx sl S → Q'.nx sl S) (h2 : ∀ sl S, Q.bk sl S → Q'.bk sl S) (h3 : ∀ sl S, Q.ct sl S → Q'.ct sl S) (h4 : ∀ d S, Q.rt d S → Q'.rt d S) (h5 : ∀ e sl S, Q.ex e sl S → Q'.ex e sl S) : Wo o Q' := by
  cases o with
  | nx sl S => rw [wo_nx] at h ⊢; exact h1 _ _ h
  | bk sl S => rw [wo_bk] at h ⊢; exact h2 _ _ h
  | ct sl S => rw [wo_ct] at h ⊢; exact h3 _ _ h
  | rt d S => rw [wo_rt] at h ⊢; exact h4 _ _ h
  | ex e sl S => rw [wo_ex] at h ⊢; exact h5 _ _ _ h
  | bad => rw [wo_bad] at h; exact h.elim
/-- the same end, told as an equation -/
theorem we_eq {o : Out α} {a : α} (h : o = .ok a S) (p : P a S) : We o P X := by rw [h, we_ok]; exact p
theorem We.get {o : Out α} (h : We o P (fun _ _ => False)) : ∃ a S, o = .ok a S ∧ P a S := by
  cases o with
  | ok a S => rw [we_ok] at h; exact ⟨a, S, rfl, h⟩
  | ex e S => rw [we_ex] at h; exact h.elim
  | bad => rw [we_bad] at h; exact h.elim
/-! ### statements -/
variable {f g : SX} {c : BX} {fe : EX} {fa : AX} {tg : GX}
@[simp] theorem w_sNil : Wo (sNil sl S) Q = Q.nx sl S := by unfold sNil; simp
@[simp] theorem w_sBad : Wo (sBad sl S) Q = False := by unfold sBad; simp
@[simp] theorem w_sBrk : Wo (sBrk sl S) Q = Q.bk sl S := by unfold sBrk; simp
@[simp] theorem w_sCnt : Wo (sCnt sl S) Q = Q.ct sl S := by unfold sCnt; simp
@[simp] theorem w_sSeq : Wo (sSeq f g sl S) Q = Wo (f sl S) { Q with nx := fun sl' S' => Wo (g sl' S') Q } := by unfold sSeq; exact wo_then
@[simp] theorem w_sExp : Wo (sExp fe sl S) Q = We (fe sl S) (fun _ S' => Q.nx sl S') (fun e S' => Q.ex e sl S') := by unfold sExp; rw [wo_toS]; simp only [wo_nx, wo_rt]
@[simp] theorem w_sRet : Wo (sRet fe sl S) Q = We (fe sl S) (fun d S' => Q.rt d S') (fun e S' => Q.ex e sl S') := by unfold sRet; rw [wo_toS]; simp only [wo_nx, wo_rt]
@[simp] theorem w_sRetN : Wo (sRetN sl S) Q = Q.rt .non S := by unfold sRetN; simp
@[simp] theorem w_sIf : Wo (sIf c f g sl S) Q = We (c sl S) (fun b S' => Wo (if b = true then f sl S' else g sl S') Q) (fun e S' => Q.ex e sl S') := by unfold sIf; exact wo_toS
@[simp] theorem w_sAsg : Wo (sAsg fe tg sl S) Q = We (fe sl S) (fun d S' => Wo (tg d sl S') Q) (fun e S' => Q.ex e sl S') := by unfold sAsg; exact wo_toS
theorem w_sPar {i j : Nat} : Wo (sPar i j fa sl S) Q = We (fa sl S) (fun ds S' => Wo (match ds with
  | [d, e] => .nx ((sl.set i (some d)).set j (some e)) S'
  | _ => .bad) Q) (fun e S' => Q.ex e sl S') := by unfold sPar; exact wo_toS
@[simp] theorem w_sPar2 {i j : Nat} {f1 f2 : EX} : Wo (sPar i j (aCons f1 (aCons f2 aNil)) sl S) Q = We (f1 sl S) (fun d S1 => We (f2 sl S1) (fun e S2 => Q.nx ((sl.set i (some d)).set j (some e)) S2) (fun e S' => Q.ex e sl S')) (fun e S' => Q.ex e sl S') := by
  rw [w_sPar]
  simp only [aCons, aNil, we_bind, we_ok, wo_nx]
theorem w_sFor {it : IX} : Wo (sFor it tg f sl S) Q = We (it sl S) (fun p S' => Wo (forL p.2 tg f p.1 sl S') Q) (fun e S' => Q.ex e sl S') := by unfold sFor; exact wo_toS
@[simp] theorem w_gSet {i : Nat} {d : D} : Wo (gSet i d sl S) Q = Q.nx (sl.set i (some d)) S := by unfold gSet; simp
@[simp] theorem w_gTup {gs : GXs} {ds : List D} : Wo (gTupX gs (.tup ds) sl S) Q = Wo (gs ds sl S) Q := by unfold gTupX; rfl
@[simp] theorem w_gCons {gs : GXs} {d : D} {r : List D} : Wo (gConsX tg gs (d :: r) sl S) Q = Wo (tg d sl S) { Q with nx := fun sl' S' => Wo (gs r sl' S') Q } := by unfold gConsX; exact wo_then
@[simp] theorem w_gNil : Wo (gNilX [] sl S) Q = Q.nx sl S := by unfold gNilX; simp
theorem w_gSub {fo fi : EX} {v : D} : Wo (gSubX fo fi v sl S) Q ↔ We (fo sl S) (fun o S1 => We (fi sl S1) (fun i S2 => match setD o i v S2 with
  | some S3 => Q.nx sl S3
  | none => False) (fun _ _ => False)) (fun _ _ => False) := by
  unfold gSubX
  cases fo sl S with
  | ok o S1 =>
    show Wo (match fi sl S1 with
      | .ok i S2 => (match setD o i v S2 with
        | some S3 => .nx sl S3
        | none => .bad)
      | _ => .bad) Q ↔ _
    rw [we_ok]
    cases fi sl S1 with
    | ok i S2 =>
      rw [we_ok]
      show Wo (match setD o i v S2 with
        | some S3 => .nx sl S3
        | none => .bad) Q ↔ _
      cases setD o i v S2 <;> simp
    | ex e S => simp
    | bad => simp
  | ex e S => simp
  | bad => simp
@[simp] theorem w_gSubI {fo fi : EX} {v : D} : Wo (gSubX fo fi v sl S) Q = We (fo sl S) (fun o S1 => We (fi sl S1) (fun i S2 => ∃ S3, setD o i v S2 = some S3 ∧ Q.nx sl S3) (fun _ _ => False)) (fun _ _ => False) := propext (w_gSub.trans ⟨fun h => h.post fun o S1 h => h.post fun i S2 h => by
    cases e : setD o i v S2 with
    | none => rw [e] at h; exact h.elim
    | some S3 => rw [e] at h; exact ⟨S3, rfl, h⟩, fun h => h.post fun o S1 h => h.post fun i S2 ⟨S3, e, h⟩ => by rw [e]; exact h⟩)
/-- a statement, then the rest, with a word between them -/
theorem wo_cut {f g : SX} {Q : Q0} (M : Sl → Store → Prop) (h : Wo (f sl S) { Q with nx := M }) (k : ∀ sl S, M sl S → Wo (g sl S) Q) : Wo (sSeq f g sl S) Q := by
  rw [w_sSeq]
  exact h.mono (fun sl S h => k sl S h) (fun _ _ h => h) (fun _ _ h => h) (fun _ _ h => h) (fun _ _ _ h => h)
/-! ### expressions -/
variable {P : D → Store → Prop} {PB : Bool → Store → Prop} {PA : List D → Store → Prop} {f1 f2 f3 : EX} {c1 c2 : BX} {fs : AX}
@[simp] theorem w_eLit {d : D} : We (eLit d sl S) P X = P d S := by unfold eLit; simp
@[simp] theorem w_eName {i : Nat} : We (eName i sl S) P X = ∃ d, sl[i]? = some (some d) ∧ P d S := by
  unfold eName
  cases e : sl[i]? with
  | none => simp
  | some o => cases o <;> simp
@[simp] theorem w_eBin {sem : Sem2} : We (eBin sem f1 f2 sl S) P X = We (f1 sl S) (fun d S1 => We (f2 sl S1) (fun e S2 => We (sem d e S2) P X) X) X := by simp only [eBin, we_bind]
@[simp] theorem w_eUn {sem : Sem1} : We (eUn sem f1 sl S) P X = We (f1 sl S) (fun d S1 => We (sem d S1) P X) X := by simp only [eUn, we_bind]
@[simp] theorem w_eArgs {sem : SemL} : We (eArgs sem fs sl S) P X = We (fs sl S) (fun ds S1 => We (sem ds S1) P X) X := by simp only [eArgs, we_bind]
@[simp] theorem w_aNil : We (aNil sl S) PA X = PA [] S := by unfold aNil; simp
@[simp] theorem w_aCons : We (aCons f1 fs sl S) PA X = We (f1 sl S) (fun d S1 => We (fs sl S1) (fun ds S2 => PA (d :: ds) S2) X) X := by simp only [aCons, we_bind, we_ok]
theorem w_bVal' : We (bVal f1 sl S) PB X = We (f1 sl S) (fun d S1 => isB d fun b => PB b S1) X := by
  simp only [bVal, we_bind]
  congr 1
  funext d S1
  cases d <;> simp [isB]
@[simp] theorem w_bVal : We (bVal f1 sl S) PB X = We (f1 sl S) (fun d S1 => isB d fun b => PB b S1) X := w_bVal'
@[simp] theorem w_bNot : We (bNot c1 sl S) PB X = We (c1 sl S) (fun b S1 => PB (!b) S1) X := by simp only [bNot, we_bind, we_ok]
@[simp] theorem w_bAnd : We (bAnd c1 c2 sl S) PB X = We (c1 sl S) (fun b S1 => if b = true then We (c2 sl S1) PB X else PB false S1) X := by
  simp only [bAnd, we_bind]
  congr 1
  funext b S1
  cases b <;> simp
@[simp] theorem w_bOr : We (bOr c1 c2 sl S) PB X = We (c1 sl S) (fun b S1 => if b = true then PB true S1 else We (c2 sl S1) PB X) X := by
  simp only [bOr, we_bind]
  congr 1
  funext b S1
  cases b <;> simp
@[simp] theorem w_eAnd : We (eAnd f1 f2 sl S) P X = We (f1 sl S) (fun d S1 => isB d fun b => if b = true then We (f2 sl S1) P X else P (.bl false) S1) X := by
  simp only [eAnd, we_bind]
  congr 1
  funext d S1
  cases d with
  | bl b => cases b <;> simp [isB]
  | _ => simp [isB]
@[simp] theorem w_eOr : We (eOr f1 f2 sl S) P X = We (f1 sl S) (fun d S1 => isB d fun b => if b = true then P (.bl true) S1 else We (f2 sl S1) P X) X := by
  simp only [eOr, we_bind]
  congr 1
  funext d S1
  cases d with
  | bl b => cases b <;> simp [isB]
  | _ => simp [isB]
@[simp] theorem w_eNot : We (eNot f1 sl S) P X = We (f1 sl S) (fun d S1 => isB d fun b => P (.bl (!b)) S1) X := by
  simp only [eNot, we_bind]
  congr 1
  funext d S1
  cases d <;> simp [isB]
@[simp] theorem w_eIf : We (eIf c1 f1 f2 sl S) P X = We (c1 sl S) (fun b S1 => if b = true then We (f1 sl S1) P X else We (f2 sl S1) P X) X := by
  simp only [eIf, we_bind]
  congr 1
  funext b S1
  cases b <;> simp
@[simp] theorem w_eChain {s1 s2 : Sem2} : We (eChain s1 s2 f1 f2 f3 sl S) P X = We (f1 sl S) (fun d S1 => We (f2 sl S1) (fun e S2 => We (s1 d e S2) (fun r S3 => isB r fun b => if b = true then We (f3 sl S3) (fun g S4 => We (s2 e g S4) P X) X else P (.bl false) S3) X) X) X := by
  simp only [eChain, we_bind]
  congr 1
  funext d S1
  congr 1
  funext e S2
  congr 1
  funext r S3
  cases r with
  | bl b => cases b <;> simp [we_bind, isB]
  | _ => simp [isB]
variable {PO : Option Int → Store → Prop} {fl fu : OX}
@[simp] theorem w_oNone : We (oNone sl S) PO X = PO none S := by unfold oNone; simp
@[simp] theorem w_oInt : We (oInt f1 sl S) PO X = We (f1 sl S) (fun d S1 => ∃ i, d = .int i ∧ PO (some i) S1) X := by
  simp only [oInt, we_bind]
  congr 1
  funext d S1
  cases d <;> simp
@[simp] theorem w_eSl {h : Bool} : We (eSl h f1 fl fu sl S) P X = We (f1 sl S) (fun d S1 => We (fl sl S1) (fun l S2 => We (fu sl S2) (fun u S3 => We (semSl h d l u S3) P X) X) X) X := by simp only [eSl, we_bind]
theorem w_eMet {ty : Store → D → Bool} {sem : SemM} : We (eMet ty sem f1 fs sl S) P X = We (f1 sl S) (fun d S1 => if ty S1 d = true then We (fs sl S1) (fun ds S2 => We (sem d ds S2) P X) X else False) X := by
  simp only [eMet, we_bind]
  congr 1
  funext d S1
  cases h : ty S1 d <;> simp [we_bind]
@[simp] theorem w_eMet_ {ty : Store → D → Bool} {sem : SemM} : We (eMet ty sem f1 fs sl S) P X = We (f1 sl S) (fun d S1 => ty S1 d = true ∧ We (fs sl S1) (fun ds S2 => We (sem d ds S2) P X) X) X := by
  rw [w_eMet]
  congr 1
  funext d S1
  cases h : ty S1 d <;> simp
@[simp] theorem w_eMethZ {m : Str} {tab : List (Str × SemL)} : We (eMethZ m tab f1 fs sl S) P X = We (f1 sl S) (fun d S1 => isO (fldsOf S1 d) fun p => m ∉ p.2.1 ∧ isO (tabOf tab p.1) fun g => We (fs sl S1) (fun ds S2 => We (g (d :: ds) S2) P X) X) X := by
  unfold eMethZ
  rw [we_bind]
  congr 1
  funext d S1
  cases e : fldsOf S1 d with
  | none => simp
  | some p =>
    obtain ⟨c, ns, vs⟩ := p
    dsimp only
    rw [isO_some]
    dsimp only
    by_cases hm : m ∈ ns
    · rw [if_pos hm]; simp [hm]
    · rw [if_neg hm]
      cases e2 : tabOf tab c with
      | none => simp
      | some g =>
        dsimp only
        rw [we_bind, isO_some]
        exact propext ⟨fun h => ⟨hm, h⟩, fun h => h.2⟩
/-- what stands at a field name -/
def attP (m : Str) (d : D) (ns : List Str) (vs : List D) (S1 : Store) (P : D → Store → Prop) : AtK → Prop
  | .fld => isO (lookN m ns vs) fun v => P v S1
  | .prop g => We (g [d] S1) P (fun _ _ => False)
  | .con v => m ∉ ns ∧ P v S1
@[simp] theorem attP_fld {m : Str} {d : D} {ns : List Str} {vs : List D} {S1 : Store} : attP m d ns vs S1 P .fld = isO (lookN m ns vs) fun v => P v S1 := (rfl)
@[simp] theorem attP_prop {m : Str} {d : D} {ns : List Str} {vs : List D} {S1 : Store} {g : SemL} : attP m d ns vs S1 P (.prop g) = We (g [d] S1) P (fun _ _ => False) := (rfl)
@[simp] theorem attP_con {m : Str} {d : D} {ns : List Str} {vs : List D} {S1 : Store} {v : D} : attP m d ns vs S1 P (.con v) = (m ∉ ns ∧ P v S1) := (rfl)
@[simp] theorem w_eAttr {m : Str} {tab : List (Str × AtK)} : We (eAttrZ m tab f1 sl S) P X = We (f1 sl S) (fun d S1 => isO (fldsOf S1 d) fun p => isO (tab.lookup p.1) fun t => attP m d p.2.1 p.2.2 S1 P t) X := by
  unfold eAttrZ
  rw [we_bind]
  congr 1
  funext d S1
  cases e : fldsOf S1 d with
  | none => simp
  | some p =>
    obtain ⟨c, ns, vs⟩ := p
    dsimp only
    rw [isO_some]
    dsimp only
    cases e2 : tab.lookup c with
    | none => simp
    | some t =>
      rw [isO_some]
      cases t with
      | fld =>
        dsimp only
        rw [attP_fld]
        cases lookN m ns vs <;> simp
      | prop g =>
        dsimp only
        rw [attP_prop]
        cases g [d] S1 <;> simp
      | con v =>
        dsimp only
        rw [attP_con]
        by_cases hm : m ∈ ns <;> simp [hm]
@[simp] theorem w_sFld {cs : List Str} {m : Str} : Wo (sFldZ cs m f1 f2 sl S) Q = We (f1 sl S) (fun v S1 => We (f2 sl S1) (fun o S2 => ∃ S3, setF cs m o v S2 = some S3 ∧ Q.nx sl S3) (fun e S' => Q.ex e sl S')) (fun e S' => Q.ex e sl S') := by
  simp only [sFldZ, wo_toS]
  congr 1
  funext d S1
  congr 1
  funext o S2
  cases setF cs m o d S2 <;> simp
@[simp] theorem w_arity {n : Nat} {g : SemL} {ds : List D} (h : ds.length = n) : arity n g ds S = g ds S := if_pos h
/-! ### a def's end -/
def FinP (S : Store) (P : D → Store → Prop) : D → Store → Prop := fun d S' => Closed S S' ∧ ∃ d', frzD (frzP S' S.length 6) d = some d' ∧ P d' (S'.take S.length)
theorem we_fin {o : Out D} : We (fin S o) P X = We o (FinP S P) (FinP S X) := by
  cases o with
  | bad => simp [fin]
  | ok d S' =>
    simp only [fin, we_ok, FinP]
    by_cases h : Closed S S'
    · rw [if_pos h]
      cases e : frzD (frzP S' S.length 6) d <;> simp [h]
    · rw [if_neg h]; simp [h]
  | ex d S' =>
    simp only [fin, we_ex, FinP]
    by_cases h : Closed S S'
    · rw [if_pos h]
      cases e : frzD (frzP S' S.length 6) d <;> simp [h]
    · rw [if_neg h]; simp [h]
/-- behind a body -/
def QF (S : Store) (P : D → Store → Prop) (X : D → Store → Prop) : Q0 := ⟨fun _ S' => FinP S P .non S', fun _ _ => False, fun _ _ => False, FinP S P, fun e _ S' => FinP S X e S'⟩
theorem we_out {o : SO} {P X : D → Store → Prop} : We o.out P X = Wo o ⟨fun _ S' => P .non S', fun _ _ => False, fun _ _ => False, P, fun e _ S' => X e S'⟩ := by cases o <;> simp [SO.out]
theorem we_defS {N : Nat} {body : SX} {ds : List D} : We (defS N body ds S) P X = Wo (body (ds.map some ++ List.replicate (N - ds.length) none) S) (QF S P X) := by
  unfold defS
  rw [we_fin, we_out]
  rfl
theorem we_defH {N : Nat} {body : SX} {ds : List D} : We (defH N body ds S) P X = Wo (body (ds.map some ++ List.replicate (N - ds.length) none) S) ⟨fun _ S' => P .non S', fun _ _ => False, fun _ _ => False, P, fun e _ S' => X e S'⟩ := we_out
@[simp] theorem qf_nx : (QF S P X).nx sl = FinP S P .non := (rfl)
@[simp] theorem qf_rt : (QF S P X).rt = FinP S P := (rfl)
@[simp] theorem qf_ex {e : D} : (QF S P X).ex e sl = FinP S X e := (rfl)
@[simp] theorem qf_bk : (QF S P X).bk sl S = False := (rfl)
@[simp] theorem qf_ct : (QF S P X).ct sl S = False := (rfl)
theorem finP_keep {S1 T : Store} {d d' : D} (h : Keep S S1) (hd : frzD (frzP (S1 ++ T) S.length 6) d = some d') (p : P d' S1) : FinP S P d (S1 ++ T) :=
  ⟨h.closed, d', hd, by rw [← h.len, List.take_left']; exact p; rfl⟩
theorem finP_keep0 {S1 : Store} {d : D} (h : Keep S S1) (hd : under S.length d = true) (p : P d S1) : FinP S P d S1 := by
  have := finP_keep (P := P) (T := []) h (d := d) (d' := d) (frz_of hd) p
  rwa [List.append_nil] at this
theorem finP_app {S1 T : Store} {d : D} (h : Keep S S1) (hd : under S.length d = true) (p : P d S1) : FinP S P d (S1 ++ T) := finP_keep h (frz_of hd) p
theorem finP_same {d : D} (hd : under S.length d = true) (p : P d S) : FinP S P d S := finP_keep0 (Keep.refl S) hd p
theorem finP_lst {S1 : Store} {acc : List D} (h : Keep S S1) (hu : underL S.length acc = true) (p : P (.lst acc) S1) : FinP S P (.ptr S1.length) (S1 ++ [.lst acc]) := by
  refine finP_keep h ?_ p
  rw [← h.len] at hu ⊢
  exact frz_lst hu
@[simp] theorem finP_bl {b : Bool} : FinP S P (.bl b) S = P (.bl b) S := propext ⟨fun ⟨_, d', h, p⟩ => by rw [frzD] at h; cases h; simpa using p, fun p => finP_same rfl p⟩
@[simp] theorem finP_int {i : Int} : FinP S P (.int i) S = P (.int i) S := propext ⟨fun ⟨_, d', h, p⟩ => by rw [frzD] at h; cases h; simpa using p, fun p => finP_same rfl p⟩
@[simp] theorem finP_str {i : Str} : FinP S P (.str i) S = P (.str i) S := propext ⟨fun ⟨_, d', h, p⟩ => by rw [frzD] at h; cases h; simpa using p, fun p => finP_same rfl p⟩
@[simp] theorem finP_non : FinP S P .non S = P .non S := propext ⟨fun ⟨_, d', h, p⟩ => by rw [frzD] at h; cases h; simpa using p, fun p => finP_same rfl p⟩
@[simp] theorem w_eFin {f : EX} : We (eFin f sl S) P X = We (f sl S) (FinP S P) (FinP S X) := we_fin
mutual
theorem under_mono {j k : Nat} (h : j ≤ k) : ∀ d, under j d = true → under k d = true
  | .non, _ => by simp [under]
  | .bl _, _ => by simp [under]
  | .int _, _ => by simp [under]
  | .str _, _ => by simp [under]
  | .ty _, _ => by simp [under]
  | .cls _, _ => by simp [under]
  | .scr _, _ => by simp [under]
  | .exc _ _ vs, q => by simp only [under] at q ⊢; exact underL_mono h vs q
  | .lam _ _, _ => by simp [under]
  | .lamc _ vs, q => by simp only [under] at q ⊢; exact underL_mono h vs q
  | .tup xs, q => by simp only [under] at q ⊢; exact underL_mono h xs q
  | .lst xs, q => by simp only [under] at q ⊢; exact underL_mono h xs q
  | .dct ks vs, q => by
    simp only [under, Bool.and_eq_true] at q ⊢
    exact ⟨underL_mono h ks q.1, underL_mono h vs q.2⟩
  | .ins _ _ vs, q => by simp only [under] at q ⊢; exact underL_mono h vs q
  | .ptr n, q => by
    simp only [under, decide_eq_true_eq] at q ⊢
    omega
theorem underL_mono {j k : Nat} (h : j ≤ k) : ∀ ds, underL j ds = true → underL k ds = true
  | [], _ => by simp [underL]
  | d :: ds, q => by
    simp only [underL, Bool.and_eq_true] at q ⊢
    exact ⟨under_mono h d q.1, underL_mono h ds q.2⟩
end
theorem underL_iff {k : Nat} : ∀ {ds : List D}, underL k ds = true ↔ ∀ d ∈ ds, under k d = true
  | [] => by simp [underL]
  | d :: ds => by simp [underL, Bool.and_eq_true, underL_iff (ds := ds)]
@[simp] theorem underL_app {k : Nat} {a b : List D} : underL k (a ++ b) = (underL k a && underL k b) := by
  induction a with
  | nil => simp [underL]
  | cons d a ih => simp [underL, ih, Bool.and_assoc]
theorem under_of {k : Nat} {d : D} (h : under 0 d = true) : under k d = true := under_mono (Nat.zero_le k) d h
theorem underL_of {k : Nat} {ds : List D} (h : underL 0 ds = true) : underL k ds = true := underL_mono (Nat.zero_le k) ds h
@[simp] theorem under_non {k : Nat} : under k .non = true := by simp [under]
@[simp] theorem under_bl {k : Nat} {b : Bool} : under k (.bl b) = true := by simp [under]
@[simp] theorem under_int {k : Nat} {b : Int} : under k (.int b) = true := by simp [under]
@[simp] theorem under_str {k : Nat} {b : Str} : under k (.str b) = true := by simp [under]
@[simp] theorem under_tup {k : Nat} {b : List D} : under k (.tup b) = underL k b := by simp [under]
@[simp] theorem under_lst {k : Nat} {b : List D} : under k (.lst b) = underL k b := by simp [under]
@[simp] theorem under_dct {k : Nat} {a b : List D} : under k (.dct a b) = (underL k a && underL k b) := by simp [under]
@[simp] theorem under_ins {k : Nat} {c : Str} {ns : List Str} {b : List D} : under k (.ins c ns b) = underL k b := by simp [under]
@[simp] theorem underL_nil {k : Nat} : underL k [] = true := by simp [underL]
@[simp] theorem underL_cons {k : Nat} {d : D} {ds : List D} : underL k (d :: ds) = (under k d && underL k ds) := by simp [underL]
end
section
variable {X : D → Store → Prop} {Q : Q0} {S : Store} {sl : Sl} {G : Store → Prop} {g : GX} {body : SX}
/-! ### loops -/
theorem wo_forL (I : List D → Sl → Store → Prop) : ∀ (xs pre : List D) (sl : Sl) (S : Store), I pre sl S →
    (∀ p x post sl S, pre ++ xs = p ++ x :: post → I p sl S → G S ∧ Wo (g x sl S) ⟨fun sl1 S1 => Wo (body sl1 S1) ⟨fun sl2 S2 => I (p ++ [x]) sl2 S2, Q.nx, fun sl2 S2 => I (p ++ [x]) sl2 S2, Q.rt, Q.ex⟩, fun _ _ => False, fun _ _ => False, fun _ _ => False, fun _ _ _ => False⟩) →
    (∀ sl S, I (pre ++ xs) sl S → G S ∧ Q.nx sl S) → Wo (forL G g body xs sl S) Q
  | [], pre, sl, S, h0, step, hend => by
    rw [List.append_nil] at hend
    obtain ⟨h1, h2⟩ := hend sl S h0
    simp only [forL, if_pos h1, wo_nx]
    exact h2
  | x :: xs, pre, sl, S, h0, step, hend => by
    obtain ⟨h1, h2⟩ := step pre x xs sl S rfl h0
    simp only [forL, if_pos h1]
    cases e : g x sl S with
    | nx sl1 S1 =>
      rw [e] at h2
      simp only [wo_nx] at h2
      dsimp only
      have hl : pre ++ x :: xs = (pre ++ [x]) ++ xs := by simp
      have next : ∀ sl2 S2, I (pre ++ [x]) sl2 S2 → Wo (forL G g body xs sl2 S2) Q := fun sl2 S2 hI =>
        wo_forL I xs (pre ++ [x]) sl2 S2 hI (fun p y post sl S he hp => step p y post sl S (by rw [hl]; exact he) hp) (fun sl S hI => hend sl S (by rw [hl]; exact hI))
      cases e2 : body sl1 S1 with
      | nx sl2 S2 => rw [e2, wo_nx] at h2; exact next _ _ h2
      | ct sl2 S2 => rw [e2, wo_ct] at h2; exact next _ _ h2
      | bk sl2 S2 => rw [e2, wo_bk] at h2; dsimp only; rw [wo_nx]; exact h2
      | rt d S2 => rw [e2, wo_rt] at h2; dsimp only; rw [wo_rt]; exact h2
      | ex e sl2 S2 => rw [e2, wo_ex] at h2; dsimp only; rw [wo_ex]; exact h2
      | bad => rw [e2, wo_bad] at h2; exact h2.elim
    | bk _ _ => rw [e, wo_bk] at h2; exact h2.elim
    | ct _ _ => rw [e, wo_ct] at h2; exact h2.elim
    | rt _ _ => rw [e, wo_rt] at h2; exact h2.elim
    | ex _ _ _ => rw [e, wo_ex] at h2; exact h2.elim
    | bad => rw [e, wo_bad] at h2; exact h2.elim
/-- a for: I of what was walked, the slots, the store -/
theorem wo_for {it : IX} {xs : List D} {S' : Store} (hit : it sl S = .ok (xs, G) S') (I : List D → Sl → Store → Prop) (h0 : I [] sl S')
    (step : ∀ p x post sl S, xs = p ++ x :: post → I p sl S → G S ∧ Wo (g x sl S) ⟨fun sl1 S1 => Wo (body sl1 S1) ⟨fun sl2 S2 => I (p ++ [x]) sl2 S2, Q.nx, fun sl2 S2 => I (p ++ [x]) sl2 S2, Q.rt, Q.ex⟩, fun _ _ => False, fun _ _ => False, fun _ _ => False, fun _ _ _ => False⟩)
    (hend : ∀ sl S, I xs sl S → G S ∧ Q.nx sl S) : Wo (sFor it g body sl S) Q := by
  rw [w_sFor, hit, we_ok]
  exact wo_forL I xs [] sl S' h0 step hend
/-! ### comprehensions -/
variable {bt : BX} {fe : EX} {n : Nat}
theorem we_lcL {PU : Unit → Store → Prop} {slw : Sl} (I : List D → List D → Store → Prop) (hn : ∀ p acc S, I p acc S → S.length = n ∧ acc.length ≤ p.length) : ∀ (xs pre acc : List D) (S : Store), (pre ++ xs).length ≤ 1000000 → I pre acc S →
    (∀ p x post acc S, pre ++ xs = p ++ x :: post → I p acc S → G (S ++ [.lst acc]) ∧ Wo (g x slw (S ++ [.lst acc])) ⟨fun sl1 S1 => We (bt sl1 S1) (fun b S2 => if b = true then We (fe sl1 S2) (fun d S3 => ∃ S4, S3 = S4 ++ [.lst acc] ∧ I (p ++ [x]) (acc ++ [d]) S4) (fun _ _ => False) else ∃ S4, S2 = S4 ++ [.lst acc] ∧ I (p ++ [x]) acc S4) (fun _ _ => False), fun _ _ => False, fun _ _ => False, fun _ _ => False, fun _ _ _ => False⟩) →
    (∀ acc S, I (pre ++ xs) acc S → G (S ++ [.lst acc]) ∧ PU () (S ++ [.lst acc])) → We (lcL G g bt fe n slw xs (S ++ [.lst acc])) PU X
  | [], pre, acc, S, hl, h0, step, hend => by
    rw [List.append_nil] at hend
    obtain ⟨h1, h2⟩ := hend acc S h0
    simp only [lcL, if_pos h1, we_ok]
    exact h2
  | x :: xs, pre, acc, S, hl, h0, step, hend => by
    obtain ⟨h1, h2⟩ := step pre x xs acc S rfl h0
    simp only [lcL, if_pos h1]
    have hll : pre ++ x :: xs = (pre ++ [x]) ++ xs := by simp
    have next : ∀ acc S2, I (pre ++ [x]) acc S2 → We (lcL G g bt fe n slw xs (S2 ++ [.lst acc])) PU X := fun acc S2 hI =>
      we_lcL I hn xs (pre ++ [x]) acc S2 (by rw [← hll]; exact hl) hI (fun p y post acc S he hp => step p y post acc S (by rw [hll]; exact he) hp) (fun acc S hI => hend acc S (by rw [hll]; exact hI))
    cases e : g x slw (S ++ [.lst acc]) with
    | nx sl1 S1 =>
      rw [e] at h2
      simp only [wo_nx] at h2
      dsimp only
      cases e2 : bt sl1 S1 with
      | ok b S2 =>
        rw [e2, we_ok] at h2
        cases b with
        | false =>
          simp only [Bool.false_eq_true, if_false] at h2
          obtain ⟨S4, rfl, h4⟩ := h2
          exact next acc S4 h4
        | true =>
          simp only [if_true] at h2
          cases e3 : fe sl1 S2 with
          | ok d S3 =>
            rw [e3, we_ok] at h2
            obtain ⟨S4, rfl, h4⟩ := h2
            obtain ⟨hn1, hn2⟩ := hn _ _ _ h4
            have hg : (S4 ++ [MO.lst acc])[n]? = some (.lst acc) := by rw [List.getElem?_append_right (by omega), hn1]; simp
            have hlt : acc.length < 1000000 := by
              have := (hn _ _ _ h0).2
              simp only [List.length_append, List.length_cons] at hl
              omega
            dsimp only
            rw [e3]
            dsimp only
            rw [hg]
            dsimp only
            rw [if_pos hlt]
            have hs : (S4 ++ [MO.lst acc]).set n (.lst (acc ++ [d])) = S4 ++ [MO.lst (acc ++ [d])] := by
              rw [List.set_append_right _ _ (by omega), hn1]; simp
            rw [hs]
            exact next _ S4 h4
          | ex _ _ => rw [e3, we_ex] at h2; exact h2.elim
          | bad => rw [e3, we_bad] at h2; exact h2.elim
      | ex _ _ => rw [e2, we_ex] at h2; exact h2.elim
      | bad => rw [e2, we_bad] at h2; exact h2.elim
    | bk _ _ => rw [e, wo_bk] at h2; exact h2.elim
    | ct _ _ => rw [e, wo_ct] at h2; exact h2.elim
    | rt _ _ => rw [e, wo_rt] at h2; exact h2.elim
    | ex _ _ _ => rw [e, wo_ex] at h2; exact h2.elim
    | bad => rw [e, wo_bad] at h2; exact h2.elim
/-- [fe for g in it if bt]: I of what was walked, what was made, the store without it -/
theorem we_lc {it : IX} {own : List Nat} {P : D → Store → Prop} {xs : List D} {S' : Store} (hit : it sl S = .ok (xs, G) S') (hl : xs.length ≤ 1000000) (I : List D → List D → Store → Prop) (hn : ∀ p acc S, I p acc S → S.length = S'.length ∧ acc.length ≤ p.length) (h0 : I [] [] S')
    (step : ∀ p x post acc S, xs = p ++ x :: post → I p acc S → G (S ++ [.lst acc]) ∧ Wo (g x (wipeS sl own) (S ++ [.lst acc])) ⟨fun sl1 S1 => We (bt sl1 S1) (fun b S2 => if b = true then We (fe sl1 S2) (fun d S3 => ∃ S4, S3 = S4 ++ [.lst acc] ∧ I (p ++ [x]) (acc ++ [d]) S4) (fun _ _ => False) else ∃ S4, S2 = S4 ++ [.lst acc] ∧ I (p ++ [x]) acc S4) (fun _ _ => False), fun _ _ => False, fun _ _ => False, fun _ _ => False, fun _ _ _ => False⟩)
    (hend : ∀ acc S, I xs acc S → G (S ++ [.lst acc]) ∧ P (.ptr S.length) (S ++ [.lst acc])) : We (eLc it g bt fe own sl S) P X := by
  unfold eLc
  rw [we_bind, hit, we_ok]
  show We ((lcL G g bt fe S'.length (wipeS sl own) xs (S' ++ [.lst []])).bind fun _ S2 => .ok (.ptr S'.length) S2) P X
  rw [we_bind]
  refine we_lcL I hn xs [] [] S' hl h0 step fun acc S hI => ?_
  obtain ⟨h1, h2⟩ := hend acc S hI
  rw [(hn _ _ _ hI).1] at h2
  exact ⟨h1, by rw [we_ok]; exact h2⟩
/-- a comprehension that draws nothing: its list -/
theorem we_lc_pure {it : IX} {own : List Nat} {P : D → Store → Prop} {xs : List D} (p : D → Bool) (φ : D → D) (hit : it sl S = .ok (xs, G) S) (hl : xs.length ≤ 1000000) (hG : ∀ acc, G (S ++ [.lst acc]))
    (step : ∀ x ∈ xs, ∀ acc, Wo (g x (wipeS sl own) (S ++ [.lst acc])) ⟨fun sl1 S1 => We (bt sl1 S1) (fun b S2 => b = p x ∧ if p x = true then We (fe sl1 S2) (fun d S3 => S3 = S ++ [.lst acc] ∧ d = φ x) (fun _ _ => False) else S2 = S ++ [.lst acc]) (fun _ _ => False), fun _ _ => False, fun _ _ => False, fun _ _ => False, fun _ _ _ => False⟩)
    (hend : P (.ptr S.length) (S ++ [.lst ((xs.filter p).map φ)])) : We (eLc it g bt fe own sl S) P X := by
  refine we_lc hit hl (fun pre acc S1 => S1 = S ∧ acc = (pre.filter p).map φ) (fun pre acc S1 h => ⟨by rw [h.1], by rw [h.2, List.length_map]; exact List.length_filter_le _ _⟩) ⟨rfl, rfl⟩ (fun pre x post acc S1 he h => ?_) (fun acc S1 h => ?_)
  · obtain ⟨hS1, rfl⟩ := h
    subst hS1
    refine ⟨hG _, (step x (by rw [he]; simp) _).mono (fun sl1 S1 h => h.post fun b S2 h => ?_) (fun _ _ h => h) (fun _ _ h => h) (fun _ _ h => h) (fun _ _ _ h => h)⟩
    obtain ⟨rfl, h⟩ := h
    split at h
    · rename_i hp
      rw [if_pos hp]
      exact h.post fun d S3 ⟨e1, e2⟩ => ⟨_, e1, rfl, by rw [e2]; simp [hp]⟩
    · rename_i hp
      rw [if_neg hp]
      exact ⟨_, h, rfl, by simp [hp]⟩
  · obtain ⟨rfl, rfl⟩ := h
    exact ⟨hG _, hend⟩
/-- .. as a value -/
theorem we_lcF_pure {it : IX} {own : List Nat} {P : D → Store → Prop} {xs : List D} (p : D → Bool) (φ : D → D) (hit : it sl S = .ok (xs, G) S) (hl : xs.length ≤ 1000000) (hG : ∀ acc, G (S ++ [.lst acc]))
    (step : ∀ x ∈ xs, ∀ acc, Wo (g x (wipeS sl own) (S ++ [.lst acc])) ⟨fun sl1 S1 => We (bt sl1 S1) (fun b S2 => b = p x ∧ if p x = true then We (fe sl1 S2) (fun d S3 => S3 = S ++ [.lst acc] ∧ d = φ x) (fun _ _ => False) else S2 = S ++ [.lst acc]) (fun _ _ => False), fun _ _ => False, fun _ _ => False, fun _ _ => False, fun _ _ _ => False⟩)
    (hu : ∀ x ∈ xs, p x = true → under S.length (φ x) = true)
    (hend : P (.lst ((xs.filter p).map φ)) S) : We (eLc it g bt fe own sl S) (FinP S P) X := by
  refine we_lc_pure p φ hit hl hG step (finP_lst (Keep.refl S) ?_ hend)
  rw [underL_iff]
  intro d hd
  obtain ⟨x, hx, rfl⟩ := List.mem_map.mp hd
  obtain ⟨h1, h2⟩ := List.mem_filter.mp hx
  exact hu x h1 h2
end
@[simp] theorem underL_sgs {k : Nat} {l : List Nat} : underL k (l.map sg) = true := by
  rw [underL_iff]
  intro d hd
  obtain ⟨c, _, rfl⟩ := List.mem_map.mp hd
  exact under_str
/-! ### what is walked -/
section
variable {S : Store} {sl : Sl}
theorem itAny_of {f : EX} {d : D} {S1 : Store} {xs : List D} (h : f sl S = .ok d S1) (hx : srcD S1 d = some xs) : itAny f sl S = .ok (xs, fun S2 => srcD S2 d = some xs) S1 := by
  unfold itAny
  rw [h]
  show itK d S1 = _
  unfold itK
  cases d <;> first | (simp [srcD, asS, asL] at hx; done) | (simp only [hx])
theorem itRange1_of {f : EX} {j : Int} {S1 : Store} (h : f sl S = .ok (.int j) S1) (h1 : 0 ≤ j) (h2 : j < 2 ^ 62) : itRange1 (aCons f aNil) sl S = .ok (rangeD 0 j.toNat, fun _ => True) S1 := by
  simp only [itRange1, aCons, aNil, h, bind_ok]
  rw [if_pos ⟨by omega, h2⟩]
theorem itZip_of {f1 f2 : EX} {d e : D} {S1 S2 : Store} {xs ys : List D} (h1 : f1 sl S = .ok d S1) (h2 : f2 sl S1 = .ok e S2) (hx : srcD S2 d = some xs) (hy : srcD S2 e = some ys) :
    itZip (aCons f1 (aCons f2 aNil)) sl S = .ok (zipD xs ys, fun S2 => srcD S2 d = some xs ∧ srcD S2 e = some ys) S2 := by
  simp only [itZip, aCons, aNil, h1, h2, bind_ok, hx, hy]
theorem itEnum_of {f1 : EX} {d : D} {S1 : Store} {xs : List D} (h1 : f1 sl S = .ok d S1) (hx : srcD S1 d = some xs) :
    itEnum (aCons f1 aNil) sl S = .ok (enumD 0 xs, fun S2 => srcD S2 d = some xs) S1 := by
  simp only [itEnum, aCons, aNil, h1, bind_ok, hx]
theorem eName_of {i : Nat} {d : D} (h : sl[i]? = some (some d)) : eName i sl S = .ok d S := by simp only [eName, h]
@[simp] theorem srcD_str (s : Str) : srcD S (.str s) = some (signsD s) := (rfl)
@[simp] theorem srcD_lst (xs : List D) : srcD S (.lst xs) = some xs := (rfl)
@[simp] theorem srcD_tup (xs : List D) : srcD S (.tup xs) = some xs := (rfl)
@[simp] theorem srcD_scr (xs : List Int) : srcD S (.scr xs) = some (xs.map .int) := (rfl)
@[simp] theorem asS_lst' (xs : List D) : asS S (.lst xs) = some xs := (rfl)
@[simp] theorem asS_tup' (xs : List D) : asS S (.tup xs) = some xs := (rfl)
@[simp] theorem asS_scr' (xs : List Int) : asS S (.scr xs) = some (xs.map .int) := (rfl)
@[simp] theorem asL_lst' (xs : List D) : asL S (.lst xs) = some xs := (rfl)
end
end Z
/-! ZG: what the operators, the built-ins and the methods end in. -/
namespace Z
open PySem PySem.Spec L2
section
variable {S : Store} {P : D → Store → Prop} {X : D → Store → Prop}
@[simp] theorem atI_nat' {α : Type} (xs : List α) (k : Nat) : atI xs (k : Int) = xs[k]? := by
  unfold atI ixN
  by_cases h : k < xs.length
  · simp [h]
  · rw [if_pos (by omega), if_neg (by omega)]
    simp; omega
@[simp] theorem atI_0 {α : Type} (xs : List α) : atI xs 0 = xs[0]? := atI_nat' xs 0
@[simp] theorem atI_1 {α : Type} (xs : List α) : atI xs 1 = xs[1]? := atI_nat' xs 1
@[simp] theorem atI_2 {α : Type} (xs : List α) : atI xs 2 = xs[2]? := atI_nat' xs 2
@[simp] theorem atI_3 {α : Type} (xs : List α) : atI xs 3 = xs[3]? := atI_nat' xs 3
@[simp] theorem atI_4 {α : Type} (xs : List α) : atI xs 4 = xs[4]? := atI_nat' xs 4
@[simp] theorem atI_5 {α : Type} (xs : List α) : atI xs 5 = xs[5]? := atI_nat' xs 5
@[simp] theorem atI_6 {α : Type} (xs : List α) : atI xs 6 = xs[6]? := atI_nat' xs 6
@[simp] theorem atI_7 {α : Type} (xs : List α) : atI xs 7 = xs[7]? := atI_nat' xs 7
@[simp] theorem atI_8 {α : Type} (xs : List α) : atI xs 8 = xs[8]? := atI_nat' xs 8
theorem orS2_l {f g : Sem2} {d e : D} {a : D} {S' : Store} (h : f d e S = .ok a S') : orS2 f g d e S = .ok a S' := by unfold orS2; rw [h]
theorem orS2_r {f g : Sem2} {d e : D} (h : f d e S = .bad) : orS2 f g d e S = g d e S := by unfold orS2; rw [h]
theorem orSL_l {f g : SemL} {d : List D} {a : D} {S' : Store} (h : f d S = .ok a S') : orSL f g d S = .ok a S' := by unfold orSL; rw [h]
theorem orSL_r {f g : SemL} {d : List D} (h : f d S = .bad) : orSL f g d S = g d S := by unfold orSL; rw [h]
/-! #### o[i] -/
@[simp] theorem w_ix_lst {xs : List D} {i : Int} : We (ixX (.lst xs) (.int i) S) P X = ∃ x, atI xs i = some x ∧ P x S := by
  rw [ix_lst]
  cases atI xs i <;> simp
@[simp] theorem w_ix_tup {xs : List D} {i : Int} : We (ixX (.tup xs) (.int i) S) P X = ∃ x, atI xs i = some x ∧ P x S := by
  rw [ix_tup]
  cases atI xs i <;> simp
@[simp] theorem w_ix_str {l : List Nat} {i : Int} : We (ixX (.str (tx l)) (.int i) S) P X = (l.length ≤ 1000000 ∧ ∃ c, atI l i = some c ∧ P (sg c) S) := by
  by_cases h : l.length ≤ 1000000
  · cases e : atI l i with
    | none =>
      have : ixX (.str (tx l)) (.int i) S = .bad := by
        unfold ixX
        rw [orS2_r (by simp only [ixSeq]; rw [if_pos (by simpa using h)]; simp [e])]
        rfl
      rw [this]; simp
    | some c =>
      have : ixX (.str (tx l)) (.int i) S = .ok (sg c) S := by
        unfold ixX
        exact orS2_l (by simp only [ixSeq]; rw [if_pos (by simpa using h)]; simp [e])
      rw [this]; simp [h]
  · have : ixX (.str (tx l)) (.int i) S = .bad := by
      unfold ixX
      rw [orS2_r (by simp only [ixSeq]; rw [if_neg (by simpa using h)])]
      rfl
    rw [this]; simp [h]
theorem ixSeq_dct {ks vs : List D} {k : D} : ixSeq (.dct ks vs) k S = .bad := by
  cases k <;> simp [ixSeq, asS, asL]
@[simp] theorem w_ix_dct {ks vs : List D} {k : D} : We (ixX (.dct ks vs) k S) P X = ∃ y, keyD k = some y ∧ ∃ v, getK ks vs y = some v ∧ P v S := by
  have : ixX (.dct ks vs) k S = ixDct (.dct ks vs) k S := by unfold ixX; exact orS2_r ixSeq_dct
  rw [this]
  unfold ixDct asD
  cases e : keyD k with
  | none => simp
  | some y =>
    dsimp only
    cases e2 : getK ks vs y <;> simp [e2]
@[simp] theorem keyD_str {s : Str} : keyD (.str s) = some (.inr s) := (rfl)
@[simp] theorem keyD_int {s : Int} : keyD (.int s) = some (.inl s) := (rfl)
/-! #### len -/
@[simp] theorem w_len_str {l : List Nat} : We (lenX [.str (tx l)] S) P X = (l.length ≤ 1000000 ∧ P (.int l.length) S) := by
  by_cases h : l.length ≤ 1000000
  · have : lenX [.str (tx l)] S = .ok (.int l.length) S := by
      unfold lenX
      refine orSL_l ?_
      simp [semLen, h]
    rw [this]; simp [h]
  · have : lenX [.str (tx l)] S = .bad := by
      unfold lenX
      rw [orSL_r (by simp [semLen, h])]
      rfl
    rw [this]; simp [h]
@[simp] theorem len_tup {xs : List D} : lenX [.tup xs] S = .ok (.int xs.length) S := by simp [lenX, orSL, semLen, asS]
@[simp] theorem len_lst {xs : List D} : lenX [.lst xs] S = .ok (.int xs.length) S := by simp [lenX, orSL, semLen, asS, asL]
@[simp] theorem len_dct {ks vs : List D} : lenX [.dct ks vs] S = .ok (.int ks.length) S := by simp [lenX, orSL, semLen, asS, asL, semLenD, asD]
/-! #### + -/
@[simp] theorem w_add_str {a b : List Nat} : We (addX (.str (tx a)) (.str (tx b)) S) P X = (a.length + b.length ≤ 1000000 ∧ P (.str (tx (a ++ b))) S) := by
  by_cases h : a.length + b.length ≤ 1000000
  · have : addX (.str (tx a)) (.str (tx b)) S = .ok (.str (tx (a ++ b))) S := by
      unfold addX
      rw [orS2_r (by rfl)]
      exact orS2_l (by simp [addS, h])
    rw [this]; simp [h]
  · have : addX (.str (tx a)) (.str (tx b)) S = .bad := by
      unfold addX
      rw [orS2_r (by rfl), orS2_r (by simp [addS, h]), orS2_r (by simp [addL, asL])]
      rfl
    rw [this]; simp [h]
@[simp] theorem w_add_lst {a b : List D} : We (addX (.lst a) (.lst b) S) P X = (a.length + b.length ≤ 1000000 ∧ P (.lst (a ++ b)) S) := by
  by_cases h : a.length + b.length ≤ 1000000
  · have : addX (.lst a) (.lst b) S = .ok (.lst (a ++ b)) S := by
      unfold addX
      rw [orS2_r (by rfl), orS2_r (by rfl)]
      exact orS2_l (by simp [addL, asL, h])
    rw [this]; simp [h]
  · have : addX (.lst a) (.lst b) S = .bad := by
      unfold addX
      rw [orS2_r (by rfl), orS2_r (by rfl), orS2_r (by simp [addL, asL, h])]
      rfl
    rw [this]; simp [h]
/-! #### in -/
theorem in_sg {neg : Bool} {c : Nat} {l : List Nat} : inSg neg (sg c) (.str (tx l)) S = .ok (.bl (if neg = true then !decide (c ∈ l) else decide (c ∈ l))) S := by
  simp only [inSg]
@[simp] theorem inX_sg {c : Nat} {l : List Nat} : inX (sg c) (.str (tx l)) S = .ok (.bl (decide (c ∈ l))) S := orS2_l (in_sg (neg := false))
@[simp] theorem ninX_sg {c : Nat} {l : List Nat} : ninX (sg c) (.str (tx l)) S = .ok (.bl (!decide (c ∈ l))) S := orS2_l (in_sg (neg := true))
theorem in_dct {neg : Bool} {k : D} {y : Key} {ks vs : List D} (h : keyD k = some y) : inDct neg k (.dct ks vs) S = .ok (.bl (if neg = true then !hasK ks y else hasK ks y)) S := by
  simp only [inDct, asD, h]
theorem inSg_dct {neg : Bool} {k : D} {ks vs : List D} : inSg neg k (.dct ks vs) S = .bad := by cases k <;> rfl
theorem inX_dct {k : D} {y : Key} {ks vs : List D} (h : keyD k = some y) : inX k (.dct ks vs) S = .ok (.bl (hasK ks y)) S := by
  unfold inX
  rw [orS2_r inSg_dct]
  exact orS2_l (in_dct (neg := false) h)
theorem ninX_dct {k : D} {y : Key} {ks vs : List D} (h : keyD k = some y) : ninX k (.dct ks vs) S = .ok (.bl (!hasK ks y)) S := by
  unfold ninX
  rw [orS2_r inSg_dct]
  exact orS2_l (in_dct (neg := true) h)
@[simp] theorem inX_dctS {s : Str} {ks vs : List D} : inX (.str s) (.dct ks vs) S = .ok (.bl (hasK ks (.inr s))) S := inX_dct rfl
@[simp] theorem ninX_dctS {s : Str} {ks vs : List D} : ninX (.str s) (.dct ks vs) S = .ok (.bl (!hasK ks (.inr s))) S := ninX_dct rfl
theorem inSg_sq {neg : Bool} {k e : D} {xs : List D} (h : asS S e = some xs) : inSg neg k e S = .bad := by
  cases e <;> first | (simp [asS, asL] at h; done) | (cases k <;> rfl)
theorem inDct_sq {neg : Bool} {k e : D} {xs : List D} (h : asS S e = some xs) : inDct neg k e S = .bad := by
  unfold inDct
  have : asD S e = none := by
    cases e with
    | ptr n =>
      simp only [asS, asL] at h
      split at h
      · rename_i ds e; simp [asD, e]
      · cases h
    | _ => first | rfl | (simp [asS, asL] at h; done)
  rw [this]
theorem inX_sq {k e : D} {xs : List D} (h : asS S e = some xs) (hk : flatD k = true) (hx : xs.all flatD = true) : inX k e S = .ok (.bl (inD k xs)) S := by
  unfold inX
  rw [orS2_r (inSg_sq h), orS2_r (inDct_sq h)]
  unfold inSq
  simp only [h]
  rw [if_pos ⟨hk, hx⟩]
  rfl
@[simp] theorem inD_sg {c : Nat} {l : List Nat} : inD (sg c) (l.map sg) = decide (c ∈ l) := by
  unfold inD
  induction l with
  | nil => rfl
  | cons x l ih =>
    rw [List.map_cons, List.any_cons, ih]
    have : eqF (sg x) (sg c) = decide (x = c) := by
      show ((tx [x]) == (tx [c])) = _
      by_cases h : x = c
      · subst h; simp
      · simp [h]
    rw [this]
    by_cases h : x = c
    · simp [h]
    · simp [h, Ne.symm h, eq_comm]
@[simp] theorem flat_sgs {l : List Nat} : (l.map sg).all flatD = true := by simp [List.all_eq_true, flatD]
@[simp] theorem flat_str {s : Str} : flatD (.str s) = true := (rfl)
@[simp] theorem flat_int {s : Int} : flatD (.int s) = true := (rfl)
/-! #### slices -/
theorem sIx_nat (n d k : Nat) : HT.sIx n d (some (k : Int)) = min k n := HT.sIx_nat n d k
@[simp] theorem cutS_from (l : List Nat) (k : Nat) : cutS (tx l) (some (k : Int)) none = tx (l.drop k) := by
  unfold cutS
  congr 1
  rw [HT.sIx_none, sIx_nat, tx_len]
  show ((l.drop (min k l.length)).take (l.length - min k l.length)).toArray = _
  rw [List.take_of_length_le (by simp)]
  by_cases h : k ≤ l.length
  · rw [Nat.min_eq_left h]
  · rw [Nat.min_eq_right (by omega), List.drop_length, List.drop_eq_nil_of_le (by omega)]
@[simp] theorem cutS_to (l : List Nat) (k : Nat) : cutS (tx l) none (some (k : Int)) = tx (l.take k) := by
  unfold cutS
  congr 1
  rw [HT.sIx_none, sIx_nat, tx_len]
  show ((l.drop 0).take (min k l.length - 0)).toArray = _
  rw [List.drop_zero, Nat.sub_zero]
  by_cases h : k ≤ l.length
  · rw [Nat.min_eq_left h]
  · rw [Nat.min_eq_right (by omega), List.take_length, List.take_of_length_le (by omega)]
@[simp] theorem cutS_mid (l : List Nat) (j k : Nat) : cutS (tx l) (some (j : Int)) (some (k : Int)) = tx ((l.take k).drop j) := by
  unfold cutS
  congr 1
  rw [sIx_nat, sIx_nat, tx_len]
  show ((l.drop (min j l.length)).take (min k l.length - min j l.length)).toArray = _
  rw [← List.drop_take]
  by_cases h : k ≤ l.length
  · rw [Nat.min_eq_left h]
    by_cases h2 : j ≤ l.length
    · rw [Nat.min_eq_left h2]
    · rw [Nat.min_eq_right (by omega), List.drop_eq_nil_of_le (by simp; omega), List.drop_eq_nil_of_le (by simp; omega)]
  · rw [Nat.min_eq_right (a := k) (by omega), List.take_length, List.take_of_length_le (i := k) (by omega)]
    by_cases h2 : j ≤ l.length
    · rw [Nat.min_eq_left h2]
    · rw [Nat.min_eq_right (a := j) (by omega), List.drop_length, List.drop_eq_nil_of_le (by omega)]
@[simp] theorem cutD_from (l : List D) (k : Nat) : cutD l (some (k : Int)) none = l.drop k := by
  unfold cutD
  rw [HT.sIx_none, sIx_nat]
  rw [List.take_of_length_le (by simp)]
  by_cases h : k ≤ l.length
  · rw [Nat.min_eq_left h]
  · rw [Nat.min_eq_right (by omega), List.drop_length, List.drop_eq_nil_of_le (by omega)]
@[simp] theorem cutD_to (l : List D) (k : Nat) : cutD l none (some (k : Int)) = l.take k := by
  unfold cutD
  rw [HT.sIx_none, sIx_nat, List.drop_zero, Nat.sub_zero]
  by_cases h : k ≤ l.length
  · rw [Nat.min_eq_left h]
  · rw [Nat.min_eq_right (by omega), List.take_length, List.take_of_length_le (by omega)]
@[simp] theorem cutD_63 (l : List D) : cutD l none (some 63) = l.take 63 := cutD_to l 63
@[simp] theorem cutS_from1 (l : List Nat) : cutS (tx l) (some 1) none = tx (l.drop 1) := cutS_from l 1
@[simp] theorem cutS_from2 (l : List Nat) : cutS (tx l) (some 2) none = tx (l.drop 2) := cutS_from l 2
@[simp] theorem cutS_to1 (l : List Nat) : cutS (tx l) none (some 1) = tx (l.take 1) := cutS_to l 1
@[simp] theorem cutS_12 (l : List Nat) : cutS (tx l) (some 1) (some 2) = tx ((l.take 2).drop 1) := cutS_mid l 1 2
@[simp] theorem w_sl_str {h : Bool} {l : List Nat} {lo hi : Option Int} : We (semSl h (.str (tx l)) lo hi S) P X = (l.length ≤ 1000000 ∧ P (.str (cutS (tx l) lo hi)) S) := by
  by_cases h : l.length ≤ 1000000 <;> simp [semSl, h]
@[simp] theorem sl_tup {h : Bool} {xs : List D} {lo hi : Option Int} : semSl h (.tup xs) lo hi S = .ok (.tup (cutD xs lo hi)) S := (rfl)
@[simp] theorem sl_lst {xs : List D} {lo hi : Option Int} : semSl false (.lst xs) lo hi S = .ok (.lst (cutD xs lo hi)) S := (rfl)
@[simp] theorem sl_scr {xs : List Int} {lo hi : Option Int} : semSl false (.scr xs) lo hi S = .ok (.lst (cutD (xs.map .int) lo hi)) S := (rfl)
/-! #### displays -/
@[simp] theorem w_semTup {ds : List D} : We (semTup ds S) P X = (ds.length ≤ 1000000 ∧ P (.tup ds) S) := by
  unfold semTup
  by_cases h : ds.length ≤ 1000000 <;> simp [h]
@[simp] theorem w_semLst {ds : List D} : We (semLst ds S) P X = (ds.length ≤ 1000000 ∧ P (.lst ds) S) := by
  unfold semLst
  by_cases h : ds.length ≤ 1000000 <;> simp [h]
@[simp] theorem w_semLstH {ds : List D} : We (semLstH ds S) P X = (ds.length ≤ 1000000 ∧ P (.ptr S.length) (S ++ [.lst ds])) := by
  unfold semLstH
  by_cases h : ds.length ≤ 1000000 <;> simp [h]
/-! #### all, any, list, tuple, int -/
@[simp] theorem boolsOf_mp {α : Type} {p : α → Bool} {xs : List α} : boolsOf (xs.map fun x => .bl (p x)) = some (xs.map p) := by
  induction xs with
  | nil => rfl
  | cons x xs ih => simp [boolsOf, ih]
@[simp] theorem all_lst {α : Type} {p : α → Bool} {xs : List α} : semAll [.lst (xs.map fun x => .bl (p x))] S = .ok (.bl (xs.all p)) S := by
  simp only [semAll, asL_lst', boolsOf_mp]
  simp [List.all_map, Function.comp_def]
theorem all_const {α : Type} {xs : List α} : semAll [.lst (xs.map fun _ => .bl true)] S = .ok (.bl true) S := by
  have := all_lst (S := S) (p := fun _ : α => true) (xs := xs)
  rw [this]
  congr 2
  rw [List.all_eq_true]
  intros
  rfl
@[simp] theorem listOf_lst {xs : List D} : semListOf [.lst xs] S = .ok (.lst xs) S := (rfl)
@[simp] theorem tupOf_lst {xs : List D} : semTupOf [.lst xs] S = .ok (.tup xs) S := (rfl)
@[simp] theorem tupOf_tup {xs : List D} : semTupOf [.tup xs] S = .ok (.tup xs) S := (rfl)
@[simp] theorem int_int {i : Int} : semInt [.int i] S = .ok (.int i) S := (rfl)
@[simp] theorem int_bl {b : Bool} : semInt [.bl b] S = .ok (.int (if b = true then 1 else 0)) S := (rfl)
/-! #### join, append -/
@[simp] theorem strsOf_mp {xs : List (List Nat)} : strsOf (xs.map fun l => .str (tx l)) = some (xs.map tx) := by
  induction xs with
  | nil => rfl
  | cons x xs ih => simp [strsOf, ih]
theorem glued_empty : ∀ xs : List (List Nat), Txt.join (tx []) (xs.map tx) = tx xs.flatten := fun xs => by
  unfold Txt.join
  rw [StrLaws.glued_eq_join]
  induction xs with
  | nil => rfl
  | cons a xs ih =>
    cases xs with
    | nil => simp [Str.join]
    | cons b r =>
      simp only [List.map_cons, Str.join] at ih ⊢
      rw [ih]
      simp
@[simp] theorem w_join {xs : List (List Nat)} {d : D} (h : asS S d = some (xs.map fun l => .str (tx l))) : We (semJoin (.str (tx [])) [d] S) P X = ((xs.map List.length).sum ≤ 1000000 ∧ P (.str (tx xs.flatten)) S) := by
  simp only [semJoin, h, strsOf_mp]
  rw [glued_empty]
  have e : (List.map (fun x => x.length) (List.map tx xs)).sum + (List.map tx xs).length * (tx []).length = (xs.map List.length).sum := by
    rw [tx_len]
    simp only [List.length_nil, Nat.mul_zero, Nat.add_zero, List.map_map]
    congr 1
  rw [e]
  by_cases h : (xs.map List.length).sum ≤ 1000000 <;> simp [h]
@[simp] theorem w_append {xs : List D} {e : D} : We (semAppend (.ptr S.length) [e] (S ++ [.lst xs])) P X = (xs.length < 1000000 ∧ P .non (S ++ [.lst (xs ++ [e])])) := by
  simp only [semAppend]
  rw [List.getElem?_append_right (Nat.le_refl _)]
  simp only [Nat.sub_self, List.getElem?_cons_zero]
  by_cases h : xs.length < 1000000 <;> simp [h]
/-! #### isinstance -/
@[simp] theorem isKd_non_int : isKd .non "int" = some false := by decide
@[simp] theorem isKd_non_bool : isKd .non "bool" = some false := by decide
@[simp] theorem isKd_non_str : isKd .non "str" = some false := by decide
@[simp] theorem isKd_non_list : isKd .non "list" = some false := by decide
@[simp] theorem isKd_non_tuple : isKd .non "tuple" = some false := by decide
@[simp] theorem isKd_non_dict : isKd .non "dict" = some false := by decide
@[simp] theorem isKd_bl_int : isKd .bl "int" = some true := by decide
@[simp] theorem isKd_bl_bool : isKd .bl "bool" = some true := by decide
@[simp] theorem isKd_bl_str : isKd .bl "str" = some false := by decide
@[simp] theorem isKd_bl_list : isKd .bl "list" = some false := by decide
@[simp] theorem isKd_bl_tuple : isKd .bl "tuple" = some false := by decide
@[simp] theorem isKd_bl_dict : isKd .bl "dict" = some false := by decide
@[simp] theorem isKd_int_int : isKd .int "int" = some true := by decide
@[simp] theorem isKd_int_bool : isKd .int "bool" = some false := by decide
@[simp] theorem isKd_int_str : isKd .int "str" = some false := by decide
@[simp] theorem isKd_int_list : isKd .int "list" = some false := by decide
@[simp] theorem isKd_int_tuple : isKd .int "tuple" = some false := by decide
@[simp] theorem isKd_int_dict : isKd .int "dict" = some false := by decide
@[simp] theorem isKd_str_int : isKd .str "int" = some false := by decide
@[simp] theorem isKd_str_bool : isKd .str "bool" = some false := by decide
@[simp] theorem isKd_str_str : isKd .str "str" = some true := by decide
@[simp] theorem isKd_str_list : isKd .str "list" = some false := by decide
@[simp] theorem isKd_str_tuple : isKd .str "tuple" = some false := by decide
@[simp] theorem isKd_str_dict : isKd .str "dict" = some false := by decide
@[simp] theorem isKd_tup_int : isKd .tup "int" = some false := by decide
@[simp] theorem isKd_tup_bool : isKd .tup "bool" = some false := by decide
@[simp] theorem isKd_tup_str : isKd .tup "str" = some false := by decide
@[simp] theorem isKd_tup_list : isKd .tup "list" = some false := by decide
@[simp] theorem isKd_tup_tuple : isKd .tup "tuple" = some true := by decide
@[simp] theorem isKd_tup_dict : isKd .tup "dict" = some false := by decide
@[simp] theorem isKd_lst_int : isKd .lst "int" = some false := by decide
@[simp] theorem isKd_lst_bool : isKd .lst "bool" = some false := by decide
@[simp] theorem isKd_lst_str : isKd .lst "str" = some false := by decide
@[simp] theorem isKd_lst_list : isKd .lst "list" = some true := by decide
@[simp] theorem isKd_lst_tuple : isKd .lst "tuple" = some false := by decide
@[simp] theorem isKd_lst_dict : isKd .lst "dict" = some false := by decide
@[simp] theorem isKd_dct_int : isKd .dct "int" = some false := by decide
@[simp] theorem isKd_dct_bool : isKd .dct "bool" = some false := by decide
@[simp] theorem isKd_dct_str : isKd .dct "str" = some false := by decide
@[simp] theorem isKd_dct_list : isKd .dct "list" = some false := by decide
@[simp] theorem isKd_dct_tuple : isKd .dct "tuple" = some false := by decide
@[simp] theorem isKd_dct_dict : isKd .dct "dict" = some true := by decide
@[simp] theorem kdOf_non : kdOf S .non = some .non := (rfl)
@[simp] theorem kdOf_bl {b : Bool} : kdOf S (.bl b) = some .bl := (rfl)
@[simp] theorem kdOf_int {b : Int} : kdOf S (.int b) = some .int := (rfl)
@[simp] theorem kdOf_str {b : Str} : kdOf S (.str b) = some .str := (rfl)
@[simp] theorem kdOf_tup {b : List D} : kdOf S (.tup b) = some .tup := (rfl)
@[simp] theorem kdOf_lst {b : List D} : kdOf S (.lst b) = some .lst := (rfl)
@[simp] theorem kdOf_scr {b : List Int} : kdOf S (.scr b) = some .lst := (rfl)
@[simp] theorem kdOf_dct {a b : List D} : kdOf S (.dct a b) = some .dct := (rfl)
@[simp] theorem w_isi_ty {d : D} {T : String} : We (isiX [d, .ty T] S) P X = isO (kdOf S d) fun k => isO (isKd k T) fun b => P (.bl b) S := by
  cases e : kdOf S d with
  | none =>
    have : isiX [d, .ty T] S = .bad := by
      unfold isiX
      rw [orSL_r (by simp [semIsi, e])]
      simp [semIsiT]
    rw [this]; simp
  | some k =>
    cases e2 : isKd k T with
    | none =>
      have : isiX [d, .ty T] S = .bad := by
        unfold isiX
        rw [orSL_r (by simp [semIsi, e, e2])]
        simp [semIsiT]
      rw [this]; simp [e2]
    | some b =>
      have : isiX [d, .ty T] S = .ok (.bl b) S := by
        unfold isiX
        exact orSL_l (by simp [semIsi, e, e2])
      rw [this]; simp [e2]
@[simp] theorem w_isi_tup {d : D} {ts : List D} : We (isiX [d, .tup ts] S) P X = isO (kdOf S d) fun k => isO (tysOf ts) fun Ts => isO (isKds k Ts) fun b => P (.bl b) S := by
  have e0 : isiX [d, .tup ts] S = semIsiT [d, .tup ts] S := by
    unfold isiX
    exact orSL_r (by simp [semIsi])
  rw [e0]
  simp only [semIsiT]
  cases e : kdOf S d with
  | none => simp
  | some k =>
    cases e1 : tysOf ts with
    | none => simp
    | some Ts =>
      dsimp only
      cases e2 : isKds k Ts <;> simp [e2]
@[simp] theorem tysOf_nil : tysOf [] = some [] := (rfl)
@[simp] theorem tysOf_cons {T : String} {r : List D} : tysOf (.ty T :: r) = (tysOf r).map (T :: ·) := (rfl)
@[simp] theorem isKds_nil {k : Kd} : isKds k [] = some false := (rfl)
@[simp] theorem isKds_cons {k : Kd} {T : String} {r : List String} : isKds k (T :: r) = (isKd k T).bind fun b => (isKds k r).map fun c => b || c := by
  simp only [isKds]
  cases isKd k T <;> cases isKds k r <;> rfl
/-! #### == of flat things -/
def okS (l : List Nat) : Prop := ∀ c ∈ l, c < 1114112
theorem okS_shaped {l : List Nat} (h : okS l) : SeqAt.shaped (.str (tx l)) = true := shaped_str (by
  unfold PyData.strOk
  simp
  exact h)
theorem eqD_str {a b : List Nat} (ha : okS a) (hb : okS b) : eqD false (.str (tx a)) (.str (tx b)) S = .ok (.bl (decide (a = b))) S := by
  simp [eqD, toP, toP0, PyData.eqv, okS_shaped ha, okS_shaped hb]
  by_cases h : a = b <;> simp [h]
theorem neD_str {a b : List Nat} (ha : okS a) (hb : okS b) : eqD true (.str (tx a)) (.str (tx b)) S = .ok (.bl (!decide (a = b))) S := by
  simp [eqD, toP, toP0, PyData.eqv, okS_shaped ha, okS_shaped hb]
  by_cases h : a = b <;> simp [h]
@[simp] theorem eqD_bl {a b : Bool} : eqD false (.bl a) (.bl b) S = .ok (.bl (decide (a = b))) S := by
  simp [eqD, toP, toP0, PyData.eqv]
  cases a <;> cases b <;> rfl
@[simp] theorem neD_bl {a b : Bool} : eqD true (.bl a) (.bl b) S = .ok (.bl (!decide (a = b))) S := by
  simp [eqD, toP, toP0, PyData.eqv]
  cases a <;> cases b <;> rfl
@[simp] theorem isN_is {d : D} {neg : Bool} : isN neg d .non S = .ok (.bl (if neg = true then !isNon d else isNon d)) S := (rfl)
@[simp] theorem isNon_non : isNon .non = true := (rfl)
@[simp] theorem isNon_bl {b : Bool} : isNon (.bl b) = false := (rfl)
@[simp] theorem isNon_int {b : Int} : isNon (.int b) = false := (rfl)
@[simp] theorem isNon_str {b : Str} : isNon (.str b) = false := (rfl)
@[simp] theorem isNon_tup {b : List D} : isNon (.tup b) = false := (rfl)
@[simp] theorem isNon_lst {b : List D} : isNon (.lst b) = false := (rfl)
/-! #### sorted -/
/-! #### o[i] op= e, o[i] = e -/
@[simp] theorem fldsOf_ins {c : Str} {ns : List Str} {vs : List D} : fldsOf S (.ins c ns vs) = some (c, ns, vs) := (rfl)
/-! #### a list of texts against the empty list -/
end
end Z
/-! ZL: the defs that many laws share: the bag, draws, sameness, letters. -/
namespace Z
open PySem PySem.Spec L2
/-- _law_bag -/
noncomputable def m__law_bag : SX :=
  (sRet (eArgs semLstH (aCons (eArgs semListOf (aCons (eSl false (eName 0) oNone (oInt (eLit (.int 63)))) aNil)) (aCons (eLit (.int 0)) (aCons (eLit (.int 0)) (aCons (eLit (.int 5625)) aNil))))))
noncomputable def f__law_bag : SemL := arity 1 (defH 1 m__law_bag)
/-- _law_pick -/
noncomputable def m__law_pick : SX :=
  (sSeq (sIf (bAnd (bVal (eBin (eqD false) (eBin ixX (eName 0) (eLit (.int 2))) (eLit (.int 0)))) (bVal (eBin ltX (eBin ixX (eName 0) (eLit (.int 1))) (eArgs lenX (aCons (eBin ixX (eName 0) (eLit (.int 0))) aNil)))))
  (sSeq (sAsg (eBin ixX (eBin ixX (eName 0) (eLit (.int 0))) (eBin ixX (eName 0) (eLit (.int 1)))) (gSet 2))
  (sSeq (sAsg (eBin addX (eBin ixX (eName 0) (eLit (.int 1))) (eLit (.int 1))) (gSubX (eName 0) (eLit (.int 1))))
  (sIf (bVal (eBin geI (eName 2) (eBin powI (eLit (.int 10)) (eLit (.int 18)))))
  (sAsg (eName 2) (gSubX (eName 0) (eLit (.int 2))))
  (sAsg (eBin modI (eArgs semInt (aCons (eBin addX (eBin addX (eBin mulX (eBin ixX (eName 0) (eLit (.int 3))) (eLit (.int 48817))) (eBin mulX (eBin modI (eArgs semInt (aCons (eName 2) aNil)) (eLit (.int 2147483399))) (eLit (.int 9241)))) (eLit (.int 17))) aNil)) (eLit (.int 2147483563))) (gSubX (eName 0) (eLit (.int 3)))))))
  sNil)
  (sSeq (sIf (bVal (eBin gtI (eBin ixX (eName 0) (eLit (.int 2))) (eLit (.int 0))))
  (sSeq (sAsg (eBin modI (eArgs semInt (aCons (eBin ixX (eName 0) (eLit (.int 2))) aNil)) (eName 1)) (gSet 3))
  (sSeq (sAsg (eBin divI (eBin ixX (eName 0) (eLit (.int 2))) (eName 1)) (gSubX (eName 0) (eLit (.int 2))))
  (sRet (eName 3))))
  sNil)
  (sSeq (sAsg (eBin ixX (eName 0) (eLit (.int 3))) (gSet 4))
  (sSeq (sAsg (eBin modI (eArgs semInt (aCons (eBin addX (eBin addX (eBin mulX (eName 4) (eName 4)) (eBin mulX (eName 4) (eLit (.int 31013)))) (eLit (.int 1402361))) aNil)) (eLit (.int 2147483563))) (gSubX (eName 0) (eLit (.int 3))))
  (sRet (eBin modI (eArgs semInt (aCons (eBin addX (eBin divI (eBin ixX (eName 0) (eLit (.int 3))) (eLit (.int 71))) (eBin mulX (eBin modI (eArgs semInt (aCons (eBin ixX (eName 0) (eLit (.int 3))) aNil)) (eLit (.int 7907))) (eLit (.int 59)))) aNil)) (eName 1)))))))
noncomputable def f__law_pick : SemL := arity 2 (defS 5 m__law_pick)
/-- _law_of -/
noncomputable def m__law_of : SX :=
  (sRet (eBin ixX (eName 1) (eArgs f__law_pick (aCons (eName 0) (aCons (eArgs lenX (aCons (eName 1) aNil)) aNil)))))
noncomputable def f__law_of : SemL := arity 2 (defS 2 m__law_of)
/-- _law_same -/
noncomputable def m__law_same (again : SemL) : SX :=
  (sSeq (sIf (bVal (eArgs isiX (aCons (eName 1) (aCons (eArgs semTup (aCons (eLit (.ty "list")) (aCons (eLit (.ty "tuple")) aNil))) aNil))))
  (sSeq (sIf (bOr (bVal (eBin (eqD true) (eArgs isiX (aCons (eName 0) (aCons (eLit (.ty "list")) aNil))) (eArgs isiX (aCons (eName 1) (aCons (eLit (.ty "list")) aNil))))) (bVal (eBin (eqD true) (eArgs isiX (aCons (eName 0) (aCons (eLit (.ty "tuple")) aNil))) (eArgs isiX (aCons (eName 1) (aCons (eLit (.ty "tuple")) aNil))))))
  (sRet (eLit (.bl false)))
  sNil)
  (sRet (eAnd (eBin (eqD false) (eArgs lenX (aCons (eName 0) aNil)) (eArgs lenX (aCons (eName 1) aNil))) (eArgs semAll (aCons (eFin (eLc (itZip (aCons (eName 0) (aCons (eName 1) aNil))) (gTupX (gConsX (gSet 2) (gConsX (gSet 3) gNilX))) bTrue (eArgs again (aCons (eName 2) (aCons (eName 3) aNil))) [2, 3])) aNil)))))
  sNil)
  (sSeq (sIf (bOr (bVal (eBin (isN false) (eName 1) (eLit .non))) (bVal (eBin (isN false) (eName 0) (eLit .non))))
  (sRet (eAnd (eBin (isN false) (eName 1) (eLit .non)) (eBin (isN false) (eName 0) (eLit .non))))
  sNil)
  (sSeq (sIf (bOr (bVal (eBin (eqD true) (eArgs isiX (aCons (eName 0) (aCons (eLit (.ty "bool")) aNil))) (eArgs isiX (aCons (eName 1) (aCons (eLit (.ty "bool")) aNil))))) (bVal (eBin (eqD true) (eArgs isiX (aCons (eName 0) (aCons (eLit (.ty "int")) aNil))) (eArgs isiX (aCons (eName 1) (aCons (eLit (.ty "int")) aNil))))))
  (sRet (eLit (.bl false)))
  sNil)
  (sRet (eAnd (eBin (eqD false) (eArgs isiX (aCons (eName 0) (aCons (eLit (.ty "str")) aNil))) (eArgs isiX (aCons (eName 1) (aCons (eLit (.ty "str")) aNil)))) (eBin (eqD false) (eName 0) (eName 1)))))))
noncomputable def f__law_sameR : Nat → SemL
  | 0 => fun _ _ => .bad
  | k + 1 => arity 2 (defS 4 (m__law_same (f__law_sameR k)))
noncomputable def f__law_same : SemL := f__law_sameR 12
def bagD (cs : List Int) (a g s : Int) : MO := .lst [.lst (cs.map .int), .int a, .int g, .int s]
theorem pick_great (cs : List Int) (a g sd : Int) (S : Store) (n : Nat) (many : Int) (hS : S[n]? = some (bagD cs a g sd)) (hb : 0 < g) (hm : 0 < many) (hm2 : many.natAbs.log2 < 9000) :
    (m__law_pick [some (.ptr n), some (.int many), none, none, none] S).out = .ok (.int (g % many)) (S.set n (bagD cs a (g / many) sd)) := by
  unfold bagD at hS ⊢
  have hg : ¬ (g = 0) := by omega
  have hn : n < S.length := (List.getElem?_eq_some_iff.mp hS).1
  simp [m__law_pick, sSeq, sIf, bAnd, bVal, eBin, eName, eLit, ix_ptr hS, atI, ixN, hg, sNil, hb, sAsg, eArgs, aCons, aNil, semInt, modI_int hm, divI_int hm hm2, gSet, gSubX, setD, hS, sRet]
theorem atI_nat {xs : List D} {i : Int} (h0 : 0 ≤ i) (h : i < xs.length) : atI xs i = xs[i.toNat]? := by
  simp [atI, ixN, h0, h]
theorem pick_cell (cs : List Int) (a sd c : Int) (S : Store) (n : Nat) (many : Int) (hS : S[n]? = some (bagD cs a 0 sd)) (ha : 0 ≤ a) (hl : a < cs.length) (hc : cs[a.toNat]? = some c) (hc2 : 1000000000000000000 ≤ c) (hm : 0 < many) (hm2 : many.natAbs.log2 < 9000) :
    (m__law_pick [some (.ptr n), some (.int many), none, none, none] S).out = .ok (.int (c % many)) (S.set n (bagD cs (a + 1) (c / many) sd)) := by
  unfold bagD at hS ⊢
  have hn : n < S.length := (List.getElem?_eq_some_iff.mp hS).1
  have hc0 : 0 < c := by omega
  have hix : ixX (.lst (cs.map .int)) (.int a) S = .ok (.int c) S := by rw [ix_lst, atI_nat ha (by simpa using hl)]; simp [hc]
  have hset : ∀ m m' : MO, (S.set n m).set n m' = S.set n m' := fun m m' => by simp
  have hget : ∀ m : MO, (S.set n m)[n]? = some m := fun m => List.getElem?_set_self hn
  have hpow : powI (.int 10) (.int 18) = fun S => .ok (.int 1000000000000000000) S := by funext S; rfl
  simp [m__law_pick, sSeq, sIf, bAnd, bVal, eBin, eName, eLit, ix_ptr hS, atI, ixN, sNil, sAsg, eArgs, aCons, aNil, semInt, modI_int hm, divI_int hm hm2, gSet, gSubX, setD, hS, sRet, len_lst, hl, hix, ix_ptr (hget _), hget, hpow, hc2, hc0]
theorem log_small {i : Int} (h : i.natAbs < 2 ^ 60) : i.natAbs.log2 < 60 := by
  by_cases h0 : i.natAbs = 0
  · rw [h0]; decide
  · exact (Nat.log2_lt h0).mpr h
theorem mulX_small {i j : Int} (S : Store) (h : i.natAbs < 2 ^ 60) (h2 : j.natAbs < 2 ^ 60) : mulX (.int i) (.int j) S = .ok (.int (i * j)) S := by
  have := log_small h
  have := log_small h2
  exact mulX_int (by omega) S
def mixA (sd c : Int) : Int := (sd * 48817 + c % 2147483399 * 9241 + 17) % 2147483563
def mixB (sd : Int) : Int := (sd * sd + sd * 31013 + 1402361) % 2147483563
def mixD (sd : Int) : Int := sd / 71 + sd % 7907 * 59
theorem mixB_lt (sd : Int) : 0 ≤ mixB sd ∧ mixB sd < 2147483563 := ⟨Int.emod_nonneg _ (by decide), Int.emod_lt_of_pos _ (by decide)⟩
theorem mixA_lt (sd c : Int) : 0 ≤ mixA sd c ∧ mixA sd c < 2147483563 := ⟨Int.emod_nonneg _ (by decide), Int.emod_lt_of_pos _ (by decide)⟩
theorem pick_seed (cs : List Int) (a sd : Int) (S : Store) (n : Nat) (many : Int) (hS : S[n]? = some (bagD cs a 0 sd)) (ha : 0 ≤ a) (hl : ¬ a < cs.length) (h0 : 0 ≤ sd) (h1 : sd < 2147483563) (hm : 0 < many) (hm2 : many.natAbs.log2 < 9000) :
    (m__law_pick [some (.ptr n), some (.int many), none, none, none] S).out = .ok (.int (mixD (mixB sd) % many)) (S.set n (bagD cs a 0 (mixB sd))) := by
  unfold bagD at hS ⊢
  have hn : n < S.length := (List.getElem?_eq_some_iff.mp hS).1
  have hset : ∀ m m' : MO, (S.set n m).set n m' = S.set n m' := fun m m' => by simp
  have hget : ∀ m : MO, (S.set n m)[n]? = some m := fun m => List.getElem?_set_self hn
  have q1 : ∀ S, mulX (.int sd) (.int sd) S = .ok (.int (sd * sd)) S := fun S => mulX_small S (by omega) (by omega)
  have q2 : ∀ S, mulX (.int sd) (.int 31013) S = .ok (.int (sd * 31013)) S := fun S => mulX_small S (by omega) (by decide)
  have z : ∀ x : Int, (x % 7907).natAbs < 2 ^ 60 := fun x => by omega
  have q3 : ∀ S x, mulX (.int (x % 7907)) (.int 59) S = .ok (.int (x % 7907 * 59)) S := fun S x => mulX_small S (z x) (by decide)
  have m1 : ∀ S x, modI (.int x) (.int 2147483563) S = .ok (.int (x % 2147483563)) S := fun S x => modI_int (by decide) S
  have m2 : ∀ S x, modI (.int x) (.int 7907) S = .ok (.int (x % 7907)) S := fun S x => modI_int (by decide) S
  have d1 : ∀ S x, divI (.int x) (.int 71) S = .ok (.int (x / 71)) S := fun S x => divI_int (by decide) (by decide) S
  simp [m__law_pick, sSeq, sIf, bAnd, bVal, eBin, eName, eLit, ix_ptr hS, atI, ixN, sNil, sAsg, eArgs, aCons, aNil, semInt, modI_int hm, gSet, gSubX, setD, hS, sRet, len_lst, hl, ix_ptr (hget _), hget, q1, q2, q3, m1, m2, d1, mixD, mixB]
theorem pick_mix (cs : List Int) (a sd c : Int) (S : Store) (n : Nat) (many : Int) (hS : S[n]? = some (bagD cs a 0 sd)) (ha : 0 ≤ a) (hl : a < cs.length) (hc : cs[a.toNat]? = some c) (hc2 : ¬ 1000000000000000000 ≤ c) (h0 : 0 ≤ sd) (h1 : sd < 2147483563) (hm : 0 < many) (hm2 : many.natAbs.log2 < 9000) :
    (m__law_pick [some (.ptr n), some (.int many), none, none, none] S).out = .ok (.int (mixD (mixB (mixA sd c)) % many)) (S.set n (bagD cs (a + 1) 0 (mixB (mixA sd c)))) := by
  unfold bagD at hS ⊢
  have hn : n < S.length := (List.getElem?_eq_some_iff.mp hS).1
  have hix : ixX (.lst (cs.map .int)) (.int a) S = .ok (.int c) S := by rw [ix_lst, atI_nat ha (by simpa using hl)]; simp [hc]
  have hset : ∀ m m' : MO, (S.set n m).set n m' = S.set n m' := fun m m' => by simp
  have hget : ∀ m : MO, (S.set n m)[n]? = some m := fun m => List.getElem?_set_self hn
  have hpow : powI (.int 10) (.int 18) = fun S => .ok (.int 1000000000000000000) S := by funext S; rfl
  have e := mixA_lt sd c
  have z : ∀ x : Int, (x % 7907).natAbs < 2 ^ 60 := fun x => by omega
  have z2 : ∀ x : Int, (x % 2147483399).natAbs < 2 ^ 60 := fun x => by omega
  have z3 : (mixA sd c).natAbs < 2 ^ 60 := by omega
  have q0 : ∀ S, mulX (.int sd) (.int 48817) S = .ok (.int (sd * 48817)) S := fun S => mulX_small S (by omega) (by decide)
  have q4 : ∀ S x, mulX (.int (x % 2147483399)) (.int 9241) S = .ok (.int (x % 2147483399 * 9241)) S := fun S x => mulX_small S (z2 x) (by decide)
  have q1 : ∀ S, mulX (.int (mixA sd c)) (.int (mixA sd c)) S = .ok (.int (mixA sd c * mixA sd c)) S := fun S => mulX_small S z3 z3
  have q2 : ∀ S, mulX (.int (mixA sd c)) (.int 31013) S = .ok (.int (mixA sd c * 31013)) S := fun S => mulX_small S z3 (by decide)
  have q3 : ∀ S x, mulX (.int (x % 7907)) (.int 59) S = .ok (.int (x % 7907 * 59)) S := fun S x => mulX_small S (z x) (by decide)
  have m1 : ∀ S x, modI (.int x) (.int 2147483563) S = .ok (.int (x % 2147483563)) S := fun S x => modI_int (by decide) S
  have m2 : ∀ S x, modI (.int x) (.int 7907) S = .ok (.int (x % 7907)) S := fun S x => modI_int (by decide) S
  have m3 : ∀ S x, modI (.int x) (.int 2147483399) S = .ok (.int (x % 2147483399)) S := fun S x => modI_int (by decide) S
  have d1 : ∀ S x, divI (.int x) (.int 71) S = .ok (.int (x / 71)) S := fun S x => divI_int (by decide) (by decide) S
  have fA : (sd * 48817 + c % 2147483399 * 9241 + 17) % 2147483563 = mixA sd c := rfl
  have fB : (mixA sd c * mixA sd c + mixA sd c * 31013 + 1402361) % 2147483563 = mixB (mixA sd c) := rfl
  simp [m__law_pick, sSeq, sIf, bAnd, bVal, eBin, eName, eLit, ix_ptr hS, atI, ixN, sNil, sAsg, eArgs, aCons, aNil, semInt, modI_int hm, gSet, gSubX, setD, hS, sRet, len_lst, hl, hix, ix_ptr (hget _), hget, hpow, hc2, q0, q1, q2, q3, q4, m1, m2, m3, d1, fA, fB, mixD]
theorem closed_set {S : Store} {n : Nat} {m : MO} (h : underM S.length m = true) : Closed S (S.set n m) := fun i m' hi e => by
  by_cases q : n = i
  · subst q
    rw [List.getElem?_set_self hi] at e
    cases e
    exact .inr h
  · rw [List.getElem?_set_ne q] at e
    exact .inl e
theorem underL_ints (k : Nat) : ∀ cs : List Int, underL k (cs.map .int) = true
  | [] => rfl
  | c :: cs => by rw [List.map_cons, underL, under, underL_ints k cs]; rfl
theorem under_bag (k : Nat) (cs : List Int) (a g s : Int) : underM k (bagD cs a g s) = true := by
  simp [bagD, underM, underL, under, underL_ints]
theorem fin_set {S : Store} {n : Nat} {m : MO} {d : D} (h : underM S.length m = true) (hd : ∀ g, frzD g d = some d) : fin S (.ok d (S.set n m)) = .ok d (S.set n m) := by
  simp only [fin, if_pos (closed_set h), hd]
  rw [show (S.set n m).take S.length = S.set n m from List.take_of_length_le (by simp)]
/-! ### the bag -/
structure BagAt (S : Store) (n : Nat) (cs : List Int) (a g s : Int) : Prop where
  at_ : S[n]? = some (bagD cs a g s)
  a0 : 0 ≤ a
  g0 : 0 ≤ g
  s0 : 0 ≤ s
  s1 : s < 2147483563
def IsBag (S : Store) (n : Nat) (cs : List Int) : Prop := ∃ a g s, BagAt S n cs a g s
/-- S' is S with another state of the bag -/
def Drawn (n : Nat) (cs : List Int) (S S' : Store) : Prop := IsBag S' n cs ∧ ∃ a g s, S' = S.set n (bagD cs a g s)
section
variable {S S' S'' T : Store} {n : Nat} {cs : List Int}
theorem IsBag.lt (h : IsBag S n cs) : n < S.length := by
  obtain ⟨a, g, s, h⟩ := h
  exact (List.getElem?_eq_some_iff.mp h.at_).1
theorem IsBag.app (h : IsBag S n cs) : IsBag (S ++ T) n cs := by
  obtain ⟨a, g, s, h⟩ := h
  exact ⟨a, g, s, by rw [List.getElem?_append_left (List.getElem?_eq_some_iff.mp h.at_).1]; exact h.at_, h.a0, h.g0, h.s0, h.s1⟩
theorem IsBag.of_app (h : IsBag (S ++ T) n cs) (hn : n < S.length) : IsBag S n cs := by
  obtain ⟨a, g, s, h⟩ := h
  exact ⟨a, g, s, by have := h.at_; rwa [List.getElem?_append_left hn] at this, h.a0, h.g0, h.s0, h.s1⟩
theorem Drawn.refl (h : IsBag S n cs) : Drawn n cs S S := by
  refine ⟨h, ?_⟩
  obtain ⟨a, g, s, h⟩ := h
  refine ⟨a, g, s, ?_⟩
  have := h.at_
  rw [List.getElem?_eq_some_iff] at this
  obtain ⟨hn, e⟩ := this
  rw [← e, List.set_getElem_self]
theorem Drawn.trans (h : Drawn n cs S S') (h' : Drawn n cs S' S'') : Drawn n cs S S'' := by
  obtain ⟨_, a, g, s, e⟩ := h
  obtain ⟨b, a', g', s', e'⟩ := h'
  exact ⟨b, a', g', s', by rw [e', e]; simp⟩
theorem Drawn.len (h : Drawn n cs S S') : S'.length = S.length := by
  obtain ⟨_, a, g, s, e⟩ := h
  rw [e]; simp
theorem Drawn.keep (h : Drawn n cs S S') : Keep S S' := by
  obtain ⟨_, a, g, s, e⟩ := h
  rw [e]
  exact Keep.set (under_bag _ _ _ _ _)
theorem Drawn.get (h : Drawn n cs S S') {i : Nat} (hi : i ≠ n) : S'[i]? = S[i]? := by
  obtain ⟨_, a, g, s, e⟩ := h
  rw [e, List.getElem?_set_ne (Ne.symm hi)]
/-- a draw beneath T -/
theorem Drawn.split (hB : IsBag S n cs) (h : Drawn n cs (S ++ T) S'') : ∃ S', S'' = S' ++ T ∧ Drawn n cs S S' := by
  obtain ⟨b, a, g, s, e⟩ := h
  refine ⟨S.set n (bagD cs a g s), by rw [e, List.set_append_left _ _ hB.lt], ?_, a, g, s, rfl⟩
  rw [e, List.set_append_left _ _ hB.lt] at b
  exact b.of_app (by simpa using hB.lt)
end
/-- h draws: it answers R, and changes the bag alone -/
def DF (n : Nat) (cs : List Int) (h : Store → Out D) (R : D → Prop) : Prop := ∀ S, IsBag S n cs → We (h S) (fun d S' => Drawn n cs S S' ∧ R d) (fun _ _ => False)
section
variable {n : Nat} {cs : List Int} {h : Store → Out D} {R : D → Prop} {S T : Store} {P : D → Store → Prop} {X : D → Store → Prop}
theorem DF.we (H : DF n cs h R) (hB : IsBag S n cs) (k : ∀ d S', R d → Drawn n cs S S' → P d S') : We (h S) P X := (H S hB).mono (fun d S' ⟨h1, h2⟩ => k d S' h2 h1) fun _ _ q => q.elim
theorem DF.app (H : DF n cs h R) (hB : IsBag S n cs) (k : ∀ d S', R d → Drawn n cs S S' → P d (S' ++ T)) : We (h (S ++ T)) P X := (H (S ++ T) hB.app).mono (fun d S'' ⟨h1, h2⟩ => by
  obtain ⟨S', e, h3⟩ := Drawn.split hB h1
  rw [e]
  exact k d S' h2 h3) fun _ _ q => q.elim
theorem DF.imp {R' : D → Prop} (H : DF n cs h R) (k : ∀ d, R d → R' d) : DF n cs h R' := fun S hB => (H S hB).post fun d S' ⟨h1, h2⟩ => ⟨h1, k d h2⟩
theorem fin_drawn {S S1 : Store} {d : D} (h : Drawn n cs S S1) (hd : under S.length d = true) (p : P d S1) : FinP S P d S1 := finP_keep0 h.keep hd p
end
/-! ### draws -/
theorem pick_dfB {n : Nat} {cs : List Int} {many : Int} (hm : 0 < many) (hlog : many.natAbs.log2 < 9000) : DF n cs (f__law_pick [.ptr n, .int many]) (fun d => ∃ k : Nat, (k : Int) < many ∧ d = .int k) := fun S hB => by
  have hB0 := hB
  obtain ⟨a, g, s, hb⟩ := hB
  have hn : n < S.length := (List.getElem?_eq_some_iff.mp hb.at_).1
  have key : ∀ (x a' g' s' : Int), (m__law_pick [some (.ptr n), some (.int many), none, none, none] S).out = .ok (.int (x % many)) (S.set n (bagD cs a' g' s')) → 0 ≤ a' → 0 ≤ g' → 0 ≤ s' → s' < 2147483563 →
      We (f__law_pick [.ptr n, .int many] S) (fun d S' => Drawn n cs S S' ∧ ∃ k : Nat, (k : Int) < many ∧ d = .int k) (fun _ _ => False) := fun x a' g' s' e h1 h2 h3 h4 => by
    have hx := Int.emod_nonneg x (show many ≠ 0 by omega)
    refine we_eq (a := .int (x % many)) (S := S.set n (bagD cs a' g' s')) ?_ ⟨⟨⟨a', g', s', List.getElem?_set_self hn, h1, h2, h3, h4⟩, a', g', s', rfl⟩, (x % many).toNat, by rw [Int.toNat_of_nonneg hx]; exact Int.emod_lt_of_pos _ hm, by rw [Int.toNat_of_nonneg hx]⟩
    show fin S (m__law_pick [some (.ptr n), some (.int many), none, none, none] S).out = _
    rw [e]
    exact fin_set (under_bag _ _ _ _ _) fun g => by simp [frzD]
  by_cases hg : 0 < g
  · exact key g a (g / many) s (pick_great cs a g s S n many hb.at_ hg hm hlog) hb.a0 (Int.ediv_nonneg hb.g0 (by omega)) hb.s0 hb.s1
  · have hg0 : g = 0 := by have := hb.g0; omega
    have hat := hb.at_
    rw [hg0] at hat
    by_cases hl : a < cs.length
    · have ha := hb.a0
      obtain ⟨c, hc⟩ : ∃ c, cs[a.toNat]? = some c := ⟨cs[a.toNat]'(by omega), by simp⟩
      by_cases h18 : 1000000000000000000 ≤ c
      · exact key c (a + 1) (c / many) s (pick_cell cs a s c S n many hat ha hl hc h18 hm hlog) (by omega) (Int.ediv_nonneg (by omega) (by omega)) hb.s0 hb.s1
      · exact key _ (a + 1) 0 _ (pick_mix cs a s c S n many hat ha hl hc h18 hb.s0 hb.s1 hm hlog) (by omega) (by omega) (mixB_lt _).1 (mixB_lt _).2
    · exact key _ a 0 _ (pick_seed cs a s S n many hat hb.a0 hl hb.s0 hb.s1 hm hlog) hb.a0 (by omega) (mixB_lt _).1 (mixB_lt _).2
theorem pick_df {n : Nat} {cs : List Int} {many : Int} (hm : 0 < many) (hm2 : many < 1000000) : DF n cs (f__law_pick [.ptr n, .int many]) (fun d => ∃ k : Nat, (k : Int) < many ∧ d = .int k) :=
  pick_dfB hm (by
    have := log_small (i := many) (by omega)
    omega)
theorem we_def {N n : Nat} {body : SX} {ds : List D} {S : Store} {P X : D → Store → Prop} (hl : ds.length = n) (h : Wo (body (ds.map some ++ List.replicate (N - ds.length) none) S) (QF S P X)) : We (arity n (defS N body) ds S) P X := by
  rw [w_arity hl, we_defS]
  exact h
theorem we_defO {N n : Nat} {body : SX} {ds : List D} {S : Store} {P X : D → Store → Prop} (hl : ds.length = n) (h : Wo (body (ds.map some ++ List.replicate (N - ds.length) none) S) ⟨fun _ S' => P .non S', fun _ _ => False, fun _ _ => False, P, fun e _ S' => X e S'⟩) : We (arity n (defH N body) ds S) P X := by
  rw [w_arity hl, we_defH]
  exact h
theorem bag_start {P X : D → Store → Prop} (ns : List Int) (p : P (.ptr 0) [bagD (ns.take 63) 0 0 5625]) : We (f__law_bag [.scr ns] []) P X := by
  unfold f__law_bag
  refine we_defO rfl ?_
  simp [m__law_bag, ← List.map_take]
  exact p
theorem bag_is (ns : List Int) : IsBag [bagD (ns.take 63) 0 0 5625] 0 (ns.take 63) := ⟨0, 0, 5625, rfl, by decide, by decide, by decide, by decide⟩
/-- one of some -/
theorem of_df {n : Nat} {cs : List Int} {xs : List D} (hx : xs ≠ []) (hl : xs.length < 1000000) (hu : underL 0 xs = true) : DF n cs (f__law_of [.ptr n, .lst xs]) (fun d => d ∈ xs) := fun S hB => by
  have h0 : 0 < xs.length := List.length_pos_iff.mpr hx
  unfold f__law_of
  refine we_def rfl ?_
  simp [m__law_of]
  refine (pick_df (by omega) (by omega)).we hB fun d S' ⟨k, hk, e⟩ hD => ?_
  subst e
  have hk' : k < xs.length := by omega
  simp [hk']
  exact fin_drawn hD (under_of (underL_iff.mp hu _ (List.getElem_mem _))) ⟨hD, List.getElem_mem _⟩
/-- a comprehension that draws, every item stays: as a handle -/
theorem we_lc_drawH {n : Nat} {cs : List Int} {S S0 : Store} {sl : Sl} {it : IX} {G : Store → Prop} {g : GX} {fe : EX} {own : List Nat} {P X : D → Store → Prop} {xs : List D} (hB : IsBag S0 n cs) (hit : it sl S = .ok (xs, G) S0) (hl : xs.length ≤ 1000000) (hG : ∀ S' T, Drawn n cs S0 S' → G (S' ++ T)) (E : D → D → Prop)
    (step : ∀ x ∈ xs, ∀ S' acc, Drawn n cs S0 S' → Wo (g x (wipeS sl own) (S' ++ [.lst acc])) ⟨fun sl1 S1 => We (fe sl1 S1) (fun d S3 => ∃ S4, S3 = S4 ++ [.lst acc] ∧ Drawn n cs S' S4 ∧ E x d) (fun _ _ => False), fun _ _ => False, fun _ _ => False, fun _ _ => False, fun _ _ _ => False⟩)
    (hend : ∀ ys S', ys.length = xs.length → (∀ y ∈ ys, ∃ x ∈ xs, E x y) → Drawn n cs S0 S' → P (.ptr S'.length) (S' ++ [.lst ys])) : We (eLc it g bTrue fe own sl S) P X := by
  refine we_lc hit hl (fun pre acc S1 => Drawn n cs S0 S1 ∧ acc.length = pre.length ∧ ∀ y ∈ acc, ∃ x ∈ xs, E x y) (fun p acc S1 h => ⟨h.1.len, by omega⟩) ⟨Drawn.refl hB, rfl, by simp⟩ (fun p x post acc S1 he h => ⟨hG _ _ h.1, ?_⟩) fun acc S1 h => ⟨hG _ _ h.1, hend acc S1 h.2.1 h.2.2 h.1⟩
  have hx : x ∈ xs := by rw [he]; simp
  refine (step x hx S1 acc h.1).mono (fun sl1 S2 h2 => ?_) (fun _ _ h => h) (fun _ _ h => h) (fun _ _ h => h) (fun _ _ _ h => h)
  simp only [bTrue, we_ok, if_true]
  refine h2.post fun d S3 ⟨S4, e, hD, hd⟩ => ⟨S4, e, h.1.trans hD, by simp [h.2.1], fun y hy => ?_⟩
  rcases List.mem_append.mp hy with hy | hy
  · exact h.2.2 y hy
  · rw [List.mem_singleton.mp hy]; exact ⟨x, hx, hd⟩
/-- .. as a value -/
theorem we_lc_draw {n : Nat} {cs : List Int} {S S0 : Store} {sl : Sl} {it : IX} {G : Store → Prop} {g : GX} {fe : EX} {own : List Nat} {P X : D → Store → Prop} {xs : List D} (hD0 : Drawn n cs S S0) (hit : it sl S = .ok (xs, G) S0) (hl : xs.length ≤ 1000000) (hG : ∀ S' T, Drawn n cs S0 S' → G (S' ++ T)) (E : D → D → Prop)
    (step : ∀ x ∈ xs, ∀ S' acc, Drawn n cs S0 S' → Wo (g x (wipeS sl own) (S' ++ [.lst acc])) ⟨fun sl1 S1 => We (fe sl1 S1) (fun d S3 => ∃ S4, S3 = S4 ++ [.lst acc] ∧ Drawn n cs S' S4 ∧ E x d) (fun _ _ => False), fun _ _ => False, fun _ _ => False, fun _ _ => False, fun _ _ _ => False⟩)
    (hu : ∀ x d, E x d → under 0 d = true) (hend : ∀ ys S', ys.length = xs.length → (∀ y ∈ ys, ∃ x ∈ xs, E x y) → Drawn n cs S0 S' → P (.lst ys) S') : We (eLc it g bTrue fe own sl S) (FinP S P) X := by
  refine we_lc_drawH hD0.1 hit hl hG E step fun ys S' h1 h2 h3 => finP_lst (hD0.trans h3).keep (underL_of ?_) (hend ys S' h1 h2 h3)
  rw [underL_iff]
  exact fun d hd => let ⟨x, _, h⟩ := h2 d hd; hu x d h
/-! ### letters -/
def abc : List Nat := List.range' 97 26
@[simp] theorem lit_abc : (("abcdefghijklmnopqrstuvwxyz" : Str)) = tx abc := by decide +kernel
@[simp] theorem lit_empty : (("" : Str)) = tx [] := by decide +kernel
/-! ### sameness -/
mutual
/-- plain data of a depth at most k -/
def plain : Nat → D → Prop
  | _, .non => True
  | _, .bl _ => True
  | _, .int _ => True
  | _, .str s => okS s.cps.toList
  | k + 1, .tup xs => plainL k xs ∧ xs.length ≤ 1000000
  | k + 1, .lst xs => plainL k xs ∧ xs.length ≤ 1000000
  | _, _ => False
def plainL : Nat → List D → Prop
  | _, [] => True
  | k, d :: ds => plain k d ∧ plainL k ds
end
theorem plainL_iff {k : Nat} : ∀ {xs : List D}, plainL k xs ↔ ∀ x ∈ xs, plain k x
  | [] => by simp [plainL]
  | x :: xs => by simp [plainL, plainL_iff (xs := xs)]
@[simp] theorem plain_non {k : Nat} : plain k .non := by cases k <;> simp [plain]
@[simp] theorem plain_bl {k : Nat} {b : Bool} : plain k (.bl b) := by cases k <;> simp [plain]
@[simp] theorem plain_int {k : Nat} {b : Int} : plain k (.int b) := by cases k <;> simp [plain]
@[simp] theorem plain_str {k : Nat} {l : List Nat} : plain k (.str (tx l)) = okS l := by cases k <;> simp [plain]
theorem eq_of_we {α : Type} {o : Out α} {a : α} {S : Store} (h : We o (fun r S' => r = a ∧ S' = S) (fun _ _ => False)) : o = .ok a S := by
  obtain ⟨r, S', e, h1, h2⟩ := h.get
  rw [e, h1, h2]
theorem sameR_zero (k : Nat) (d : D) (S : Store) (h : plain 0 d) : f__law_sameR (k + 1) [d, d] S = .ok (.bl true) S := by
  refine eq_of_we ?_
  unfold f__law_sameR
  refine we_def rfl ?_
  cases d with
  | non => simp [m__law_same]
  | bl b => simp [m__law_same]
  | int i => simp [m__law_same]
  | str s =>
    rw [← tx_eta s] at h ⊢
    rw [plain_str] at h
    simp [m__law_same, eqD_str h h]
  | _ => simp [plain] at h
theorem same_refl : ∀ (k : Nat) (d : D) (S : Store), plain k d → f__law_sameR (k + 1) [d, d] S = .ok (.bl true) S := fun k => by
  induction k with
  | zero =>
    intro d S h
    exact sameR_zero 0 d S h
  | succ k ih =>
    intro d S h
    have seq : ∀ xs : List D, plainL k xs → xs.length ≤ 1000000 → ∀ d, d = .tup xs ∨ d = .lst xs → f__law_sameR (k + 1 + 1) [d, d] S = .ok (.bl true) S := fun xs hx hl d hd => by
      refine eq_of_we ?_
      rw [f__law_sameR]
      refine we_def rfl ?_
      have hz : (zipD xs xs) = xs.map fun x => .tup [x, x] := by
        unfold zipD
        rw [List.zipWith_self]
      have key : ∀ {P X X' : D → Store → Prop} {sl : Sl} {d : D}, P (.bl true) S → eName 0 sl S = .ok d S → eName 1 sl S = .ok d S → srcD S d = some xs → (∀ T, srcD (S ++ T) d = some xs) → sl.length = 4 →
          We (eLc (itZip (aCons (eName 0) (aCons (eName 1) aNil))) (gTupX (gConsX (gSet 2) (gConsX (gSet 3) gNilX))) bTrue (eArgs (f__law_sameR (k + 1)) (aCons (eName 2) (aCons (eName 3) aNil))) [2, 3] sl S) (FinP S fun d' S1 => We (semAll [d'] S1) P X) X' := fun {P X X' sl d} hP h1 h2 h3 h4 h5 => by
        have hit := itZip_of h1 h2 h3 h3
        rw [hz] at hit
        refine we_lcF_pure (xs := xs.map fun x => .tup [x, x]) (fun _ => true) (fun _ => .bl true) hit (by simpa using hl) (fun acc => ⟨h4 _, h4 _⟩) (fun x hx' T => ?_) (fun x hx _ => ?_) ?_
        · obtain ⟨y, hy, rfl⟩ := List.mem_map.mp hx'
          match sl, h5 with
          | [a, b, c, e], _ =>
            simp [wipeS, bTrue]
            rw [ih y _ (plainL_iff.mp hx y hy)]
            simp
        · simp
        · rw [all_const, we_ok]
          exact hP
      rcases hd with rfl | rfl
      · simp [m__law_same]
        refine key (d := .tup xs) ?_ ?_ ?_ ?_ ?_ ?_
        · simp
        · rfl
        · rfl
        · rfl
        · intro T; rfl
        · rfl
      · simp [m__law_same]
        refine key (d := .lst xs) ?_ ?_ ?_ ?_ ?_ ?_
        · simp
        · rfl
        · rfl
        · rfl
        · intro T; rfl
        · rfl
    cases d with
    | tup xs => rw [plain] at h; exact seq xs h.1 h.2 _ (.inl rfl)
    | lst xs => rw [plain] at h; exact seq xs h.1 h.2 _ (.inr rfl)
    | non => exact sameR_zero _ _ S plain_non
    | bl b => exact sameR_zero _ _ S plain_bl
    | int i => exact sameR_zero _ _ S plain_int
    | str s =>
      refine sameR_zero _ _ S ?_
      rw [← tx_eta s] at h ⊢
      rw [plain_str] at h ⊢
      exact h
    | _ => simp [plain] at h
end Z
/-! ZX0: an own exception whose __init__ says super().__init__(..), over the heap alone. -/
namespace ZX
open PySem PySem.W PySem.Calls PyProof.Rows PySem.Spec
/-- a def that closes over __class__, D its class -/
structure SupFn (prog : Program) (K : Frag) (f D : Addr) (qual : Str) (params : Arguments) (body : List Stmt) (scope : Scope) : Prop where
  ex : ∃ (oc : Value) (od : Option Addr) (name : Str) (kV doc pm : Value) (an : Option Addr) (cda cc : Addr) (ct : Value) (osl : Array (Option Value)),
     K.lookup f = some ⟨oc, od, .func (ksFn name qual params body scope .none kV doc pm an (.ref cda) ct cc), osl⟩ ∧ codeIn K (.ref cda) qual = true ∧
     (∃ ccl cdd ccs vs file tf, K.lookup cda = some ⟨ccl, cdd, .fields vs, ccs⟩ ∧ vs[2]? = some (.str file tf) ∧ ((prog.main.file : Str) == file) = true) ∧
     (∃ cl cld csl, K.lookup cc = some ⟨cl, cld, .cell (some (.ref D)), csl⟩)
  cls : ∃ cdD, clsIn K D = some cdD
  fn : (K.lookup f).map (·.cls) = some (.type "function")
/-- what all of it asks of the module -/
structure SupM (prog : Program) (K : Frag) (mg : Str → Option Value) (base : Heap) : Prop where
  mod : L2.Mod K mg base
  ms : mg "super" = none
  top : (prog.main.scope.names.lookup ("super" : Str)).isSome = false
  tp : nsIn K cStatics "thirdparty.any" = some none
/-- the scope of such a def -/
structure SupS (scope : Scope) (slf : Str) : Prop where
  ks : scope.names.lookup ("super" : Str) = some .globalImplicit
  kc : scope.names.lookup ("__class__" : Str) = some .free
  ka : scope.names.lookup slf = some .local
  kind : scope.kind = .function
  co : scope.isCoroutine = false
  gen : scope.isGenerator = false
  cell : ∀ x ∈ scope.names, x.2 ≠ .cell
section
variable {prog : Program} {w : World} {A : Around} {E : Value → Shared → Prop} {s : Shared} {K : Frag} {mg : Str → Option Value} {base : Heap} {L x C D f cc cda : Addr} {m : Str → Option Value} {ox : Obj} {odx : Option Obj} {slf : Str}
theorem node {body : List Stmt} {q : Str} {scope : Scope} {p0 p1 : Pos} {whole : Sem Value} {fd : FuncData} {ar : Arg} {vs : Array Value} {file : Str} {tf : Tok} {oc ccl cl : Value} {od cdd cld : Option Addr} {osl ccs csl : Array (Option Value)} {cdD : ClassData} {Q : Value → Shared → Prop}
    (M : SupM prog K mg base) (S : SupS scope ar.arg) (bk : ∀ b o, base.get? b = some o → s.heap.get? b = some o) (hn : s.heap.Ns L m)
    (hf : K.lookup f = some ⟨oc, od, .func fd, osl⟩) (hp : (fd.params.posonlyargs ++ fd.params.args).head? = some ar) (hv : m ar.arg = some (.ref x)) (I : InstAt s.heap x ox C odx)
    (hcode : K.lookup cda = some ⟨ccl, cdd, .fields vs, ccs⟩) (hvs : vs[2]? = some (.str file tf)) (hfile : ((prog.main.file : Str) == file) = true)
    (hcell : K.lookup cc = some ⟨cl, cld, .cell (some (.ref D)), csl⟩) (hD : clsIn K D = some cdD) (hsub : mroIn K C (.ref D) = some true)
    (h : ∀ h', h'.get? s.heap.objs.size = some (ks_superObj D x C) → (∀ b o, s.heap.get? b = some o → h'.get? b = some o) → Q (.ref s.heap.objs.size) { s with heap := h' }) :
    _root_.PySem.wpAt (model prog w) A (.func body (ksEnv q scope L f (.ref cda) cc)) (attributeBase (.Call (.Name "super" p0) [] [] p1) "__init__" (ksEnv q scope L f (.ref cda) cc) whole) Q E s := by
  have X : K.In s.heap := M.mod.kin.keeps bk
  obtain ⟨hh, g, d, t, os⟩ := s
  obtain ⟨oD, hD1, hD2⟩ : ∃ oD, hh.get? D = some oD ∧ oD.data = .cls cdD := by
    unfold clsIn at hD
    split at hD
    · rename_i c d cd' sl ho
      cases hD
      exact ⟨_, X _ _ ho, rfl⟩
    · cases hD
  obtain ⟨mb, hb1, hb2⟩ := M.mod.blt
  refine ks_wpAt_super_base (env := ksEnv q scope L f (.ref cda) cc) S.ks S.kc (by decide) rfl (X _ _ hf) rfl hp rfl (X _ _ hcode) rfl hvs hfile M.top ?_
  refine ks_loadName_global S.kind S.ks (loadGlobal_builtin (env := ksEnv q scope L f (.ref cda) cc) (M.mod.glob.keeps bk) M.ms (hb1.keeps bk) ((hb2 _ (by decide +kernel)).trans PyProof.Rows.Boot.«super») ⟨rfl, ?_⟩)
  refine wpAny_loadName_free S.kind S.kc rfl ⟨_, X _ _ hcell, rfl⟩ ?_
  refine wpAny_loadName_local S.kind S.ka hn hv ?_
  refine ks_wpAny_isType_cls hD1 hD2 ⟨rfl, ?_⟩
  refine ks_wpAny_call_super hD1 hD2 I.at_ I.cls (fun c e => ?_) (looks_mroIn X hsub) (fun h' e k => ?_)
  · have := I.no
    unfold notCls at this
    rw [e] at this
    exact Bool.noConfusion this
  · exact h _ e k
end
section
variable {prog : Program} {w : World} {A : Around} {E : Value → Shared → Prop} {s : Shared} {K : Frag} {mg : Str → Option Value} {base : Heap} {L x C D f : Addr} {m : Str → Option Value} {B i newId : String} {bmB : List Value}
/-- what the class of the exception says -/
structure ExC (K : Frag) (C : Addr) (bmB : List Value) (newId : String) : Prop where
  mkc : excInitIn K C bmB newId = true
  ov : excOver K C bmB = true
  cls : (clsIn K C).isSome = true
  sa : findIn K (.ref C) "__setattr__" = some (some (.builtin "object.__setattr__"))
abbrev exd (C t : Addr) (dd : Option Addr) : Obj := excObj C t dd .none
theorem inst_exc {h : Heap} {t : Addr} {dd : Option Addr} {od : Obj} (hx : h.get? x = some (exd C t dd)) (hd : ∀ d, dd = some d → h.get? d = some od) : InstAt h x (exd C t dd) C (match dd with | none => none | some _ => some od) := by
  refine ⟨hx, rfl, rfl, ?_⟩
  cases dd with
  | none => trivial
  | some d => exact hd d rfl
/-- super().__init__(e) where the next class is built in: the args are laid anew -/
theorem sup_bi {body : List Stmt} {q : Str} {scope : Scope} {p0 p1 p2 p4 p5 : Pos} {fd : FuncData} {ar : Arg} {cc cda : Addr} {vs : Array Value} {file : Str} {tf : Tok} {oc ccl cl : Value} {od cdd cld : Option Addr} {osl ccs csl : Array (Option Value)} {cdD : ClassData} {Q : Flow → Shared → Prop} {e : Expr} {Rv : Value → Prop} {t : Addr} {pl : Sem Bool}
    (KF : KxsFacts B i) (FB : ExcBaseFacts B newId i bmB) (M : SupM prog K mg base) (S : SupS scope ar.arg) (T : ExC K C bmB newId) (bk : ∀ b o, base.get? b = some o → s.heap.get? b = some o) (hn : s.heap.Ns L m)
    (hf : K.lookup f = some ⟨oc, od, .func fd, osl⟩) (hp : (fd.params.posonlyargs ++ fd.params.args).head? = some ar) (hv : m ar.arg = some (.ref x)) (hx : s.heap.get? x = some (exd C t none))
    (hcode : K.lookup cda = some ⟨ccl, cdd, .fields vs, ccs⟩) (hvs : vs[2]? = some (.str file tf)) (hfile : ((prog.main.file : Str) == file) = true)
    (hcell : K.lookup cc = some ⟨cl, cld, .cell (some (.ref D)), csl⟩) (hD : clsIn K D = some cdD) (hsub : mroIn K C (.ref D) = some true)
    (hm : ks_superIn K C D "__init__" = some (some (.builtin i))) (hB : subIn K (.ref C) (.type B) = some true)
    (he : ∀ (s1 : Shared) (Q1 : Value → Shared → Prop), s1.heap.Ns L m → (∀ v tk, Rv v → Q1 v { s1 with toks := tk }) → wpAny (model prog w) A (eval e (ksEnv q scope L f (.ref cda) cc)) Q1 E s1)
    (h : ∀ h' t' tk, (∀ b o, b ≠ x → s.heap.get? b = some o → h'.get? b = some o) → h'.get? x = some (exd C t' none) → Q .next { s with heap := h', toks := tk })
    (hs : swapsWith (.Call (.Attribute (.Call (.Name "super" p0) [] [] p1) "__init__" p2) [e] [] p4) none p5.line (ksEnv q scope L f (.ref cda) cc) = pure false)
    (hev : eval (.Call (.Attribute (.Call (.Name "super" p0) [] [] p1) "__init__" p2) [e] [] p4) (ksEnv q scope L f (.ref cda) cc) = (do
      let ov ← attributeBase (.Call (.Name "super" p0) [] [] p1) "__init__" (ksEnv q scope L f (.ref cda) cc) (eval (.Call (.Name "super" p0) [] [] p1) (ksEnv q scope L f (.ref cda) cc))
      standAt p2.atName
      let (g, first) ← holding [ov] (getMethod ov "__init__" pl)
      callWith p4 g first (backTo p4 (starEach [e] (ksEnv q scope L f (.ref cda) cc))) []))
    (hst : starEach [e] (ksEnv q scope L f (.ref cda) cc) = [(false, eval e (ksEnv q scope L f (.ref cda) cc))]) :
    _root_.PySem.wpAt (model prog w) A (.func body (ksEnv q scope L f (.ref cda) cc)) (exec (.Expr (.Call (.Attribute (.Call (.Name "super" p0) [] [] p1) "__init__" p2) [e] [] p4) p5) (ksEnv q scope L f (.ref cda) cc)) Q E s := by
  have X : K.In s.heap := M.mod.kin.keeps bk
  obtain ⟨cdC, hcC⟩ := Option.isSome_iff_exists.mp T.cls
  refine ks_wpAt_Expr_any ?_ (by unfold interactive; rw [show (ksEnv q scope L f (.ref cda) cc).scope.kind = .function from S.kind]; rfl) hs
  refine ks_wpAt_MethodCall ?_ hev
  refine node M S bk hn hf hp hv (inst_exc (od := default) hx (fun d z => by cases z)) hcode hvs hfile hcell hD hsub (fun h1 hso k1 => ?_)
  have hx1 := k1 _ _ hx
  have X1 : K.In h1 := X.keeps k1
  have I1 : InstAt h1 x (exd C t none) C none := inst_exc (od := default) hx1 (fun d z => by cases z)
  unfold ks_superIn at hm
  rw [hcC] at hm
  obtain ⟨hh, g, d, tk, os⟩ := s
  refine kxs_getMethod KF hso (looks_opaque X1 M.tp) (l₀ := cdC.mro) (fun A Q E s k q => wpAny_bind ((looks_clsIn X1 hcC) A _ E s k (wpAny_pure q))) rfl X1 hm (I1.type.andThen (looks_subIn X1 hB)) (ks_ne X1 I1 hcC) (by decide) ?_
  have k2 : ∀ b o, hh.get? b = some o → (h1.push (kxs_mw i x)).get? b = some o := fun b o e => Heap.get?_push_of_some _ (k1 b o e)
  have hw : (h1.push (kxs_mw i x)).get? h1.objs.size = some (kxs_mw i x) := Heap.get?_push_at rfl rfl
  have hn2 : (h1.push (kxs_mw i x)).Ns L m := by
    obtain ⟨oL, es, ep, hL, r⟩ := hn
    exact ⟨oL, es, ep, k2 _ _ hL, r⟩
  refine kxs_callWith (i := i) (x := x) (by rw [hst]; rfl) ?_
  rw [hst]
  refine evalArgs_plain (spliced_cons (he _ _ hn2 fun v tk2 rv => ?_))
  refine spliced_nil ⟨hw, ?_⟩
  have hx2 := k2 _ _ hx
  obtain ⟨nm, N', qn, bs, bm, hdct, sn, sub, ab, col, dd, k0, k1', k2', k3, k5, hC, hT⟩ := excInit_of (X.keeps k2) T.mkc
  refine wpAny_call (codeAny_of_tree ?_)
  show wpAny _ A.in1 (callAny (.ref _) ⟨[v], []⟩) _ _ _
  simp only [callAny]
  refine wpAny_bind (wpAny_load hw ?_)
  simp only [kxs_mw, show (Value.type "method-wrapper" == Value.type "method" || Value.type "method-wrapper" == Value.type "builtin_function_or_method" || Value.type "method-wrapper" == Value.type "method-wrapper") = true by decide, if_true]
  refine KFB.if_so (by decide) ?_
  refine wpAny_bind (check_bound_init FB.toExcCallFacts hC hx2 rfl ?_)
  refine wpAny_bind (wpAny_pure (wpAny_pure ?_))
  refine ⟨plainId_quiet FB.init.plain _, codeAny_builtin FB.initEntry ?_⟩
  refine exc_init_tree (cls := .ref C) (t0 := t) (dv := none) (c2 := .none) (c3 := .none) (b4 := .bool false) hx2 (by show 1 ≤ sizeLine; rw [sizeLine_eq]; omega) fun h' k e' t' => ?_
  exact h h' _ _ (fun b o hb e => k b o hb (k2 b o e)) e'
/-- super().__init__(e) where the next class has its own __init__ -/
theorem sup_own {body : List Stmt} {q : Str} {scope : Scope} {p0 p1 p2 p4 p5 : Pos} {fd : FuncData} {ar : Arg} {cc cda : Addr} {vs : Array Value} {file : Str} {tf : Tok} {oc ccl cl : Value} {od cdd cld : Option Addr} {osl ccs csl : Array (Option Value)} {cdD : ClassData} {Q : Flow → Shared → Prop} {e : Expr} {Rv : Value → Prop} {t : Addr} {pl : Sem Bool}
    (M : SupM prog K mg base) (S : SupS scope ar.arg) (T : ExC K C bmB newId) (bk : ∀ b o, base.get? b = some o → s.heap.get? b = some o) (hn : s.heap.Ns L m)
    (hf : K.lookup f = some ⟨oc, od, .func fd, osl⟩) (hp : (fd.params.posonlyargs ++ fd.params.args).head? = some ar) (hv : m ar.arg = some (.ref x)) (hx : s.heap.get? x = some (exd C t none)) {f2 : Addr} (hf2 : (K.lookup f2).map (·.cls) = some (.type "function")) (hfn2 : fnIn K f2 = true)
    (hcode : K.lookup cda = some ⟨ccl, cdd, .fields vs, ccs⟩) (hvs : vs[2]? = some (.str file tf)) (hfile : ((prog.main.file : Str) == file) = true)
    (hcell : K.lookup cc = some ⟨cl, cld, .cell (some (.ref D)), csl⟩) (hD : clsIn K D = some cdD) (hsub : mroIn K C (.ref D) = some true)
    (hm : ks_superIn K C D "__init__" = some (some (.ref f2)))
    (he : ∀ (s1 : Shared) (Q1 : Value → Shared → Prop), s1.heap.Ns L m → (∀ v tk, Rv v → Q1 v { s1 with toks := tk }) → wpAny (model prog w) A (eval e (ksEnv q scope L f (.ref cda) cc)) Q1 E s1)
    (h : ∀ h' tk v, Rv v → (∀ b o, s.heap.get? b = some o → h'.get? b = some o) → codeAny (model prog w) A (.call (.ref f2) ⟨[.ref x, v], []⟩) (fun r s' => match r with | .ok (.ret _) => Q .next s' | .ok _ => False | .error e => E e s') { s with heap := h', toks := tk })
    (hs : swapsWith (.Call (.Attribute (.Call (.Name "super" p0) [] [] p1) "__init__" p2) [e] [] p4) none p5.line (ksEnv q scope L f (.ref cda) cc) = pure false)
    (hev : eval (.Call (.Attribute (.Call (.Name "super" p0) [] [] p1) "__init__" p2) [e] [] p4) (ksEnv q scope L f (.ref cda) cc) = (do
      let ov ← attributeBase (.Call (.Name "super" p0) [] [] p1) "__init__" (ksEnv q scope L f (.ref cda) cc) (eval (.Call (.Name "super" p0) [] [] p1) (ksEnv q scope L f (.ref cda) cc))
      standAt p2.atName
      let (g, first) ← holding [ov] (getMethod ov "__init__" pl)
      callWith p4 g first (backTo p4 (starEach [e] (ksEnv q scope L f (.ref cda) cc))) []))
    (hst : starEach [e] (ksEnv q scope L f (.ref cda) cc) = [(false, eval e (ksEnv q scope L f (.ref cda) cc))]) :
    _root_.PySem.wpAt (model prog w) A (.func body (ksEnv q scope L f (.ref cda) cc)) (exec (.Expr (.Call (.Attribute (.Call (.Name "super" p0) [] [] p1) "__init__" p2) [e] [] p4) p5) (ksEnv q scope L f (.ref cda) cc)) Q E s := by
  have X : K.In s.heap := M.mod.kin.keeps bk
  obtain ⟨cdC, hcC⟩ := Option.isSome_iff_exists.mp T.cls
  refine ks_wpAt_Expr_any ?_ (by unfold interactive; rw [show (ksEnv q scope L f (.ref cda) cc).scope.kind = .function from S.kind]; rfl) hs
  refine ks_wpAt_MethodCall ?_ hev
  refine node M S bk hn hf hp hv (inst_exc (od := default) hx (fun d z => by cases z)) hcode hvs hfile hcell hD hsub (fun h1 hso k1 => ?_)
  have hx1 := k1 _ _ hx
  have X1 : K.In h1 := X.keeps k1
  have I1 : InstAt h1 x (exd C t none) C none := inst_exc (od := default) hx1 (fun d z => by cases z)
  unfold ks_superIn at hm
  rw [hcC] at hm
  obtain ⟨hh, g, d, tk, os⟩ := s
  obtain ⟨of, hof, hofc⟩ : ∃ of, h1.get? f2 = some of ∧ of.cls = .type "function" := by
    cases z : K.lookup f2 with
    | none => rw [z] at hf2; cases hf2
    | some of => rw [z] at hf2; exact ⟨of, X1 _ _ z, Option.some.inj hf2⟩
  refine ks_wpAny_getMethod_super hso (looks_opaque X1 M.tp) (l₀ := cdC.mro) (fun A Q E s k q => wpAny_bind ((looks_clsIn X1 hcC) A _ E s k (wpAny_pure q))) rfl X1 hm hof hofc (ks_ne X1 I1 hcC) (by decide) ?_
  have k2 : ∀ b o, hh.get? b = some o → (h1.push (methodObj (.ref f2) (.ref x))).get? b = some o := fun b o e => Heap.get?_push_of_some _ (k1 b o e)
  have hw : (h1.push (methodObj (.ref f2) (.ref x))).get? h1.objs.size = some (methodObj (.ref f2) (.ref x)) := Heap.get?_push_at rfl rfl
  have hn2 : (h1.push (methodObj (.ref f2) (.ref x))).Ns L m := by
    obtain ⟨oL, es, ep, hL, r⟩ := hn
    exact ⟨oL, es, ep, k2 _ _ hL, r⟩
  rw [hst]
  refine callWith_of (by rfl) (keeps_M (K := K) (q := h1.objs.size) (f := f2) (self := .ref x) hfn2) (evalArgs_plain (spliced_cons (he _ _ hn2 fun v tk2 rv => ?_)))
  refine spliced_nil ⟨⟨hw, X.keeps k2⟩, ?_⟩
  refine wpAny_call (ks_codeAny_call_bound hw (codeAny_mono (h _ _ v rv k2) fun r s' z => ?_))
  rcases r with x | (v | _ | _ | _) <;> first | exact z | exact z.elim
/-! ### self.name = v -/
variable {t dx : Addr} {name : Str} {v : Value} {m0 : Str → Option Value} {nl : List Str}
theorem st_new {Q : Unit → Shared → Prop} (SF : StoreFacts B bmB "object.__setattr__" "object") (X : K.In s.heap) (T : ExC K C bmB newId) (hx : s.heap.get? x = some (exd C t none)) (ha : findIn K (.ref C) name = some none) (hh : hasDictIn K C = true)
    (h : ∀ h' tk' dx, (∀ b o, b ≠ x → s.heap.get? b = some o → h'.get? b = some o) → s.heap.objs.size ≤ dx → h'.get? x = some (exd C t (some dx)) → h'.Ns1 dx (fun y => if y = name then some v else none) → Q () { s with heap := h', toks := tk' }) :
    wpAny (model prog w) A (setAttr (.ref x) name v) Q E s := by
  have ht : takerIn K C name = some none := by unfold takerIn; rw [ha]; rfl
  obtain ⟨cd, hc, hd'⟩ := any_some hh
  have hxl := Heap.lt_size hx
  have hxs : s.heap.objs.size ≠ x := Nat.ne_of_gt hxl
  have hne2 : x ≠ s.heap.objs.size := hxs.symm
  refine set_plain (od := none) X ⟨hx, rfl, rfl, trivial⟩ T.sa (osa_openX (od := none) (s := { s with toks := s.toks + 1 }) SF X ⟨hx, rfl, rfl, trivial⟩ T.ov ht fun b => ?_)
  refine wpAny_bind (wpAny_pure (wpAny_bind (instanceDict_exc (s := { s with toks := s.toks + 1 }) hx (looks_clsIn X hc) hd' ?_)))
  show wpAny _ _ (Builtin.ObjectAttr.storeInDict s.heap.objs.size (.str name s.toks) name v) _ _ _
  refine PySem.HandSPX.store_in_new ?_ ?_
  · exact ⟨dictOf [] 0, #[], 0, (Heap.get?_update_ne _ _ _ _ hxs).trans (Heap.get?_push_at rfl rfl), rfl, fun e he => absurd he (by simp), fun _ => rfl⟩
  · intro h' tk' hn' hs
    have hx₁ : (s.heap.push (dictOf [] 0)).get? x = some (exd C t none) := Heap.get?_push_of_some _ hx
    refine h h' tk' s.heap.objs.size (fun b o hb ho => ?_) (Nat.le_refl _) ?_ hn'
    · exact (hs.2 b (Nat.ne_of_lt (Heap.lt_size ho))).trans ((Heap.get?_update_ne _ _ _ _ hb).trans (Heap.get?_push_of_some _ ho))
    · exact (hs.2 x hxs.symm).trans (Heap.get?_update_self _ hx₁ rfl)
theorem st_old {Q : Unit → Shared → Prop} (SF : StoreFacts B bmB "object.__setattr__" "object") (X : K.In s.heap) (T : ExC K C bmB newId) (hx : s.heap.get? x = some (exd C t (some dx))) (hns : s.heap.Ns1 dx m0) (hw : Within m0 nl) (hz : nl.length ≤ 1000) (ha : findIn K (.ref C) name = some none) (hh : hasDictIn K C = true)
    (h : ∀ h' tk', (∀ b o, b ≠ dx → s.heap.get? b = some o → h'.get? b = some o) → h'.Ns1 dx (fun y => if y = name then some v else m0 y) → Q () { s with heap := h', toks := tk' }) :
    wpAny (model prog w) A (setAttr (.ref x) name v) Q E s := by
  have ht : takerIn K C name = some none := by unfold takerIn; rw [ha]; rfl
  obtain ⟨cd, hc, hd'⟩ := any_some hh
  obtain ⟨oD, esD, epD, hoD, hdD, _⟩ := hns.count hw
  refine set_plain (od := some oD) X ⟨hx, rfl, rfl, hoD⟩ T.sa (osa_openX (od := some oD) (s := { s with toks := s.toks + 1 }) SF X ⟨hx, rfl, rfl, hoD⟩ T.ov ht fun b => ?_)
  refine wpAny_bind (wpAny_pure (wpAny_bind (wpAny_bind (wpAny_loadPart hx (wpAny_bind (Looks.here (s := { s with toks := s.toks + 1 }) (looks_clsIn X hc) ?_))))))
  rw [hd']
  refine wpAny_pure (a := some dx) ?_
  refine PySem.OEX.store_in_old hns hw hz ?_
  intro h' tk' hn' hs
  exact h h' tk' (fun b o hb ho => (hs.2 b hb).trans ho) hn'
end
/-! ### the __init__ of an exception class, as a promise -/
open L2 (V Vals RelV RelO)
def InitOk (prog : Program) (w : World) (base : Heap) (k : Nat) (f C : Addr) (G : List V → Option (List (Str × V))) : Prop :=
  ∀ (A : Around) (s : Shared) (x t : Addr) (us : List Value) (vs : List V) (fs : List (Str × V)) (R : Result → Shared → Prop), A.depth + k < recursionLimit → (∀ b o, base.get? b = some o → s.heap.get? b = some o) → base.get? x = none → s.heap.get? x = some (exd C t none) → Vals vs us → G vs = some fs →
    (∀ h' tk t' dx m, (∀ b o, b ≠ x → s.heap.get? b = some o → h'.get? b = some o) → s.heap.objs.size ≤ dx → h'.get? x = some (exd C t' (some dx)) → h'.Ns1 dx m → (∀ g, RelO (fs.lookup g) (m g)) → R (.ok (.ret .none)) { s with heap := h', toks := tk }) →
    codeAny (model prog w) A (.call (.ref f) ⟨.ref x :: us, []⟩) R s
inductive Asgs (env : Env) (slf : Str) : List Stmt → List (Str × Str) → Prop
  | nil : Asgs env slf [] []
  | cons {p6 p7 p8 p9 : Pos} {f p : Str} {r : List Stmt} {l : List (Str × Str)} (hs : swapsWith (.Name p p8) (some (.Attribute (.Name slf p6) f p7)) p9.line env = pure false) (hk : env.kindOf p = some .local) (hd : (p == ("__debug__" : Str)) = false) (t : Asgs env slf r l) :
      Asgs env slf (.Assign [.Attribute (.Name slf p6) f p7] (.Name p p8) p9 :: r) ((f, p) :: l)
section
variable {prog : Program} {w : World} {A : Around} {E : Value → Shared → Prop} {K : Frag} {mg : Str → Option Value} {base : Heap} {L x C D f : Addr} {m : Str → Option Value} {B i newId : String} {bmB : List Value} {slf : Str}
/-- the assignments behind the first -/
theorem asgs_run {env : Env} {Q : Flow → Shared → Prop} {vof : Str → V} (SF : StoreFacts B bmB "object.__setattr__" "object") (KB : K.In base) (T : ExC K C bmB newId) (hh : hasDictIn K C = true) (hk : env.scope.kind = .function) (hL : env.locals = L) (hks : env.kindOf slf = some .local) (hds : (slf == ("__debug__" : Str)) = false)
    (hv : m slf = some (.ref x)) : ∀ {sts : List Stmt} {l : List (Str × Str)} {s : Shared} {t dx : Addr} {fs : List (Str × V)} {m0 : Str → Option Value}, Asgs env slf sts l → (∀ b o, base.get? b = some o → s.heap.get? b = some o ∧ b ≠ dx) → (∀ fp ∈ l, findIn K (.ref C) fp.1 = some none ∧ ∃ u, m fp.2 = some u ∧ RelV (vof fp.2) u) →
      s.heap.Ns L m → L ≠ dx → x ≠ dx → s.heap.get? x = some (exd C t (some dx)) → s.heap.Ns1 dx m0 → (∀ g, RelO (fs.lookup g) (m0 g)) → fs.length + l.length ≤ 900 →
      (∀ h' tk m', (∀ b o, b ≠ dx → s.heap.get? b = some o → h'.get? b = some o) → h'.get? x = some (exd C t (some dx)) → h'.Ns1 dx m' → (∀ g, RelO ((l.foldl (fun fs fp => (fp.1, vof fp.2) :: fs) fs).lookup g) (m' g)) → Q .next { s with heap := h', toks := tk }) →
      wpAny (model prog w) A (execs sts env) Q E s
  | _, _, s, t, dx, fs, m0, .nil, bk, _, hn, _, _, hx, hns, rel, _, h => by
    refine wpAny_execs_nil ?_
    exact h s.heap s.toks m0 (fun _ _ _ e => e) hx hns rel
  | _, _, s, t, dx, fs, m0, .cons (f := g) (p := p) (l := l) hs hkp hd tl, bk, hl, hn, hLd, hxd, hx, hns, rel, hlen, h => by
    obtain ⟨hf, u, hu, ru⟩ := hl (g, p) (List.mem_cons_self ..)
    refine wpAny_execs_cons (plainObj_wpAny_Assign_Attribute (wpAny_Name (wpAny_loadName_local hk hkp (by rw [hL]; exact hn) hu ?_) hd) hs)
    refine wpAny_Name (wpAny_loadName_local hk hks (by rw [hL]; exact hn) hv ?_) hds
    have X : K.In s.heap := KB.keeps fun b o e => (bk b o e).1
    have hw := L2.within_of rel
    refine st_old SF X T hx hns hw (by rw [List.length_map]; omega) hf hh fun h' tk' k hn' => ?_
    have rel' : ∀ y, RelO (((g, vof p) :: fs).lookup y) (if y = g then some u else m0 y) := L2.relO_put ru rel
    refine asgs_run SF KB T hh hk hL hks hds hv tl (fun b o e => ⟨k b o (bk b o e).2 (bk b o e).1, (bk b o e).2⟩) (fun fp hm => hl fp (List.mem_cons_of_mem _ hm)) ?_ hLd hxd (k x _ hxd hx) hn' rel' (by simp only [List.length_cons] at hlen ⊢; omega) (fun h2 tk2 m2 k2 e1 e2 e3 => h h2 tk2 m2 (fun b o hb e => k2 b o hb (k b o hb e)) e1 e2 e3)
    obtain ⟨oL, es, ep, hoL, r⟩ := hn
    exact ⟨oL, es, ep, k _ _ hLd hoL, r⟩
end
/-- how an expression of the __init__ reads: a parameter, a text -/
inductive Rd1 (env : Env) (vof : Str → V) : Expr → V → Prop
  | par {p : Str} {pos : Pos} (hk : env.kindOf p = some .local) (hd : (p == ("__debug__" : Str)) = false) : Rd1 env vof (.Name p pos) (vof p)
  | txt {x : Str} {j : Nat} {pos : Pos} : Rd1 env vof (.Constant (.str x) j pos) (.str x)
theorem Rd1.run {prog : Program} {w : World} {A : Around} {E : Value → Shared → Prop} {env : Env} {vof : Str → V} {e : Expr} {y : V} {L : Addr} {m : Str → Option Value} (r : Rd1 env vof e y) (hk : env.scope.kind = .function) (hL : env.locals = L) (hm : ∀ p, env.kindOf p = some .local → ∃ u, m p = some u ∧ RelV (vof p) u) {s1 : Shared} {Q1 : Value → Shared → Prop} (hn : s1.heap.Ns L m)
    (h : ∀ v tk, RelV y v → Q1 v { s1 with toks := tk }) : wpAny (model prog w) A (eval e env) Q1 E s1 := by
  cases r with
  | par hkp hd =>
    obtain ⟨u, hu, ru⟩ := hm _ hkp
    exact wpAny_Name (wpAny_loadName_local hk hkp (by rw [hL]; exact hn) hu (h u s1.toks ru)) hd
  | txt => exact wpAny_Constant_str (h _ _ ⟨_, rfl⟩)
section
variable {prog : Program} {w : World} {K : Frag} {mg : Str → Option Value} {base : Heap} {C D f : Addr} {B i newId : String} {bmB : List Value} {slf g qual : Str} {params : Arguments} {scope : Scope} {e0 e1 : Expr} {p0 p1 p2 p4 p5 p6 p7 p9 : Pos} {ps : List Str} {sts : List Stmt} {l : List (Str × Str)}
/-- the parameters, bound -/
structure ParOk (params : Arguments) (scope : Scope) (slf : Str) (ps : List Str) : Prop where
  head : (params.posonlyargs ++ params.args).head?.map (·.arg) = some slf
  loc : ∀ y ∈ slf :: ps, scope.names.lookup y = some .local
  only : ∀ y ∈ scope.names, y.2 = .local → y.1 ∈ slf :: ps
  nd : (slf :: ps).Nodup
  bind : ∀ (fd : FuncData) (us : List Value), fd.params = params → fd.defaults = .none → us.length = (slf :: ps).length → bindArgs fd ⟨us, []⟩ = pure ((slf :: ps).zip us)
theorem zip_lookup : ∀ {ps : List Str} {us : List Value} {vs : List V} {p : Str}, ps.Nodup → Vals vs us → us.length = ps.length → p ∈ ps → ∃ u v, (ps.zip us).lookup p = some u ∧ (ps.zip vs).lookup p = some v ∧ RelV v u := by
  intro ps
  induction ps with
  | nil => intro us vs p _ _ _ h; cases h
  | cons n ps ih =>
    intro us vs p nd r hl hm
    cases r with
    | nil => cases hl
    | @cons v u vs us rv r =>
      by_cases e : p = n
      · subst e
        exact ⟨u, v, by simp [List.lookup], by simp [List.lookup], rv⟩
      · have e' : (p == n) = false := by simpa using e
        obtain ⟨u', v', h1, h2, h3⟩ := ih (List.nodup_cons.mp nd).2 r (Nat.succ.inj hl) ((List.mem_cons.mp hm).resolve_left e)
        exact ⟨u', v', by simpa [List.lookup, e'] using h1, by simpa [List.lookup, e'] using h2, h3⟩
theorem lookup_rev : ∀ {ps : List Str} {us : List Value}, ps.Nodup → ∀ p, ((ps.zip us).reverse).lookup p = (ps.zip us).lookup p := by
  intro ps
  induction ps with
  | nil => intro us _ p; simp
  | cons n ps ih =>
    intro us nd p
    cases us with
    | nil => simp
    | cons u us =>
      have nd' := List.nodup_cons.mp nd
      rw [List.zip_cons_cons, List.reverse_cons, List.lookup_append, ih nd'.2]
      by_cases e : p = n
      · subst e
        have : (ps.zip us).lookup p = none := by
          cases q : (ps.zip us).lookup p with
          | none => rfl
          | some v => exact absurd (List.of_mem_zip (PySem.mem_of_lookup q)).1 nd'.1
        rw [this]
        simp [List.lookup]
      · have e' : (p == n) = false := by simpa using e
        cases q : (ps.zip us).lookup p <;> simp [List.lookup, e', q]
/-- the slots of the def, by value -/
def vofP (ps : List Str) (vs : List V) (p : Str) : V := ((ps.zip vs).lookup p).getD .non
/-- the text of super().__init__(e) is read as such -/
structure SupT (env : Env) (e : Expr) (p0 p1 p2 p4 p5 : Pos) : Prop where
  hs : swapsWith (.Call (.Attribute (.Call (.Name "super" p0) [] [] p1) "__init__" p2) [e] [] p4) none p5.line env = pure false
  hst : starEach [e] env = [(false, eval e env)]
  hev : ∃ pl : Sem Bool, eval (.Call (.Attribute (.Call (.Name "super" p0) [] [] p1) "__init__" p2) [e] [] p4) env = (do
      let ov ← attributeBase (.Call (.Name "super" p0) [] [] p1) "__init__" env (eval (.Call (.Name "super" p0) [] [] p1) env)
      standAt p2.atName
      let (g, first) ← holding [ov] (getMethod ov "__init__" pl)
      callWith p4 g first (backTo p4 (starEach [e] env)) [])
theorem zip_look {ps : List Str} {us : List Value} {vs : List V} (nd : ps.Nodup) (r : Vals vs us) (hl : us.length = ps.length) {p : Str} (hm : p ∈ ps) : ∃ u, ((ps.zip us).reverse).lookup p = some u ∧ RelV (vofP ps vs p) u := by
  obtain ⟨u, v, h1, h2, h3⟩ := zip_lookup nd r hl hm
  exact ⟨u, by rw [lookup_rev nd]; exact h1, by unfold vofP; rw [h2]; exact h3⟩
/-- __init__ over a built-in class: super().__init__(e0); self.g = e1 -/
theorem initBase (KF : KxsFacts B i) (FB : ExcBaseFacts B newId i bmB) (SF : StoreFacts B bmB "object.__setattr__" "object") (M : SupM prog K mg base)
    (FN : SupFn prog K f D qual params [.Expr (.Call (.Attribute (.Call (.Name "super" p0) [] [] p1) "__init__" p2) [e0] [] p4) p5, .Assign [.Attribute (.Name slf p6) g p7] e1 p9] scope)
    (S : SupS scope slf) (T : ExC K C bmB newId) (hh : hasDictIn K C = true) (P : ParOk params scope slf ps) (hsub : mroIn K C (.ref D) = some true) (hm : ks_superIn K C D "__init__" = some (some (.builtin i))) (hB : subIn K (.ref C) (.type B) = some true) (hg : findIn K (.ref C) g = some none)
    (hds : (slf == ("__debug__" : Str)) = false) (hT : ∀ env : Env, SupT env e0 p0 p1 p2 p4 p5) (hs : ∀ env : Env, swapsWith e1 (some (.Attribute (.Name slf p6) g p7)) p9.line env = pure false)
    {r0 r1 : (Str → V) → V} (h0 : ∀ (env : Env) (vof : Str → V), env.scope = scope → Rd1 env vof e0 (r0 vof)) (h1 : ∀ (env : Env) (vof : Str → V), env.scope = scope → Rd1 env vof e1 (r1 vof)) (hr1 : ∀ v1 v2 : Str → V, (∀ p ∈ ps, v1 p = v2 p) → r1 v1 = r1 v2) :
    InitOk prog w base 1 f C (fun vs => if vs.length = ps.length then some [(g, r1 (vofP ps vs))] else none) := by
  intro A s x t us vs fs R hdep bk hxb hx rv hG h
  dsimp only at hG
  split at hG
  · rename_i hl
    cases hG
    have hlu : us.length = ps.length := by rw [← rv.length]; exact hl
    obtain ⟨oc, od, name, kV, doc, pm, an, cda, cc, ct, osl, lk, hcd, ⟨ccl, cdd, ccs, vss, file, tf, lk2, hv2, hfile⟩, ⟨cl, cld, csl, lk3⟩⟩ := FN.ex
    obtain ⟨cdD, hD⟩ := FN.cls
    have X : K.In s.heap := M.mod.kin.keeps bk
    have lim : s.heap.NoLimit := M.mod.nolimit.keeps bk
    obtain ⟨ar, har, hars⟩ := Option.map_eq_some_iff.mp P.head
    refine ks_codeAny_call_defAt (binds := (slf :: ps).zip (.ref x :: us)) (by omega) (X _ _ lk) rfl lim (codeRec_of X hcd) rfl (BindsTo.of_eq (P.bind _ _ rfl rfl (by simp [hlu]))) S.cell (fun y hy => P.loc y.1 (List.of_mem_zip hy).1) (fun h₀ hns kp => ?_) S.co S.gen S.kind
    have hxs : x ≠ s.heap.objs.size := Nat.ne_of_lt (Heap.lt_size hx)
    have hz : ∀ {p : Str}, p ∈ slf :: ps → ∃ u, (((slf :: ps).zip (.ref x :: us)).reverse).lookup p = some u ∧ RelV (vofP (slf :: ps) (.ref x :: vs) p) u := fun {p} hp => zip_look P.nd (.cons (show RelV (.ref x) (.ref x) from rfl) rv) (by simp [hlu]) hp
    have hself : (((slf :: ps).zip (Value.ref x :: us)).reverse).lookup slf = some (.ref x) := by rw [lookup_rev P.nd]; simp [List.lookup]
    have hvof : ∀ p ∈ ps, vofP (slf :: ps) (.ref x :: vs) p = vofP ps vs p := fun p hp => by
      have : (p == slf) = false := by
        have := (List.nodup_cons.mp P.nd).1
        simp only [beq_eq_false_iff_ne, ne_eq]
        intro e; exact this (e ▸ hp)
      unfold vofP
      simp [List.lookup, this]
    have hx0 := kp _ _ hx
    refine ks_wpAt_execs_cons ?_
    show _root_.PySem.wpAt (model prog w) _ (.func _ (ksEnv qual scope s.heap.objs.size f (.ref cda) cc)) (exec _ (ksEnv qual scope s.heap.objs.size f (.ref cda) cc)) _ _ _
    obtain ⟨pl, hev⟩ := (hT (ksEnv qual scope s.heap.objs.size f (.ref cda) cc)).hev
    have hmL : ∀ p, (ksEnv qual scope s.heap.objs.size f (.ref cda) cc).kindOf p = some .local → ∃ u, (((slf :: ps).zip (Value.ref x :: us)).reverse).lookup p = some u ∧ RelV (vofP (slf :: ps) (.ref x :: vs) p) u := fun p hp => hz (P.only (p, .local) (PySem.mem_of_lookup hp) rfl)
    refine sup_bi (fd := ksFn name qual params _ scope .none kV doc pm an (.ref cda) ct cc) (ar := ar) (t := t) KF FB M (by rw [hars]; exact S) T (fun b o e => kp b o (bk b o e)) hns lk har (by rw [hars]; exact hself) hx0 lk2 hv2 hfile lk3 hD hsub hm hB (Rv := fun v => RelV (r0 (vofP (slf :: ps) (.ref x :: vs))) v)
      (fun s1 Q1 hn1 hq => (h0 (ksEnv qual scope s.heap.objs.size f (.ref cda) cc) _ rfl).run S.kind rfl hmL hn1 hq) (fun h' t' tk k hx' => ?_) (hT _).hs hev (hT _).hst
    have kL : s.heap.objs.size ≠ x := hxs.symm
    have hns' : h'.Ns s.heap.objs.size (fun y => ((slf :: ps).zip (Value.ref x :: us)).reverse.lookup y) := by
      obtain ⟨oL, es, ep, hL, r⟩ := hns
      exact ⟨oL, es, ep, k _ _ kL hL, r⟩
    refine ks_wpAt_execs_cons (wpAt_of_wpAny (plainObj_wpAny_Assign_Attribute ((h1 (ksEnv qual scope s.heap.objs.size f (.ref cda) cc) _ rfl).run S.kind rfl hmL hns' fun v tk2 rv1 => ?_) (hs _)))
    refine wpAny_Name (wpAny_loadName_local S.kind (P.loc slf (List.mem_cons_self ..)) hns' hself ?_) hds
    have bk' : ∀ b o, base.get? b = some o → h'.get? b = some o := fun b o e => k b o (fun z => by
      rw [z, hxb] at e
      cases e) (kp b o (bk b o e))
    refine st_new SF (M.mod.kin.keeps bk') T hx' hg hh fun h2 tk3 dx k2 hdx hx2 hn2 => ?_
    refine wpAt_of_wpAny (wpAny_execs_nil ?_)
    refine h h2 tk3 t' dx _ (fun b o hb e => k2 b o hb (k b o hb (kp b o e))) ?_ hx2 hn2 ?_
    · obtain ⟨oL, es, ep, hL, r⟩ := hns'
      exact Nat.le_trans (Nat.le_of_lt (Heap.lt_size hL)) hdx
    · have e1 : r1 (vofP (slf :: ps) (.ref x :: vs)) = r1 (vofP ps vs) := hr1 _ _ hvof
      rw [e1] at rv1
      exact L2.relO_put (fs := []) rv1 fun g => True.intro
  · cases hG
/-- __init__ over an own class: super().__init__(e0); self.f = p, .. -/
theorem initOwn {f2 : Addr} {G2 : List V → Option (List (Str × V))} {k : Nat} (F2 : InitOk prog w base k f2 C G2) (SF : StoreFacts B bmB "object.__setattr__" "object") (M : SupM prog K mg base)
    (FN : SupFn prog K f D qual params (.Expr (.Call (.Attribute (.Call (.Name "super" p0) [] [] p1) "__init__" p2) [e0] [] p4) p5 :: sts) scope)
    (S : SupS scope slf) (T : ExC K C bmB newId) (hh : hasDictIn K C = true) (P : ParOk params scope slf ps) (hsub : mroIn K C (.ref D) = some true) (hm : ks_superIn K C D "__init__" = some (some (.ref f2))) (hf2 : (K.lookup f2).map (·.cls) = some (.type "function")) (hfn2 : fnIn K f2 = true)
    (hds : (slf == ("__debug__" : Str)) = false) (hT : ∀ env : Env, SupT env e0 p0 p1 p2 p4 p5)
    {r0 : (Str → V) → V} (h0 : ∀ (env : Env) (vof : Str → V), env.scope = scope → Rd1 env vof e0 (r0 vof)) (hr0 : ∀ v1 v2 : Str → V, (∀ p ∈ ps, v1 p = v2 p) → r0 v1 = r0 v2)
    (ha : ∀ env : Env, env.scope = scope → Asgs env slf sts l) (hl : ∀ fp ∈ l, findIn K (.ref C) fp.1 = some none ∧ fp.2 ∈ ps) (hlen : l.length ≤ 100) (hG2 : ∀ vs fs, G2 vs = some fs → fs.length ≤ 800) :
    InitOk prog w base (k + 1) f C (fun vs => if vs.length = ps.length then (G2 [r0 (vofP ps vs)]).map (fun fs => l.foldl (fun fs fp => (fp.1, vofP ps vs fp.2) :: fs) fs) else none) := by
  intro A s x t us vs fs R hdep bk hxb hx rv hG h
  dsimp only at hG
  split at hG
  · rename_i hln
    obtain ⟨fs2, hfs2, hfs⟩ := Option.map_eq_some_iff.mp hG
    have hlu : us.length = ps.length := by rw [← rv.length]; exact hln
    obtain ⟨oc, od, name, kV, doc, pm, an, cda, cc, ct, osl, lk, hcd, ⟨ccl, cdd, ccs, vss, file, tf, lk2, hv2, hfile⟩, ⟨cl, cld, csl, lk3⟩⟩ := FN.ex
    obtain ⟨cdD, hD⟩ := FN.cls
    have X : K.In s.heap := M.mod.kin.keeps bk
    have lim : s.heap.NoLimit := M.mod.nolimit.keeps bk
    obtain ⟨ar, har, hars⟩ := Option.map_eq_some_iff.mp P.head
    refine ks_codeAny_call_defAt (binds := (slf :: ps).zip (.ref x :: us)) (by omega) (X _ _ lk) rfl lim (codeRec_of X hcd) rfl (BindsTo.of_eq (P.bind _ _ rfl rfl (by simp [hlu]))) S.cell (fun y hy => P.loc y.1 (List.of_mem_zip hy).1) (fun h₀ hns kp => ?_) S.co S.gen S.kind
    have hxs : x ≠ s.heap.objs.size := Nat.ne_of_lt (Heap.lt_size hx)
    have hz : ∀ {p : Str}, p ∈ slf :: ps → ∃ u, (((slf :: ps).zip (.ref x :: us)).reverse).lookup p = some u ∧ RelV (vofP (slf :: ps) (.ref x :: vs) p) u := fun {p} hp => zip_look P.nd (.cons (show RelV (.ref x) (.ref x) from rfl) rv) (by simp [hlu]) hp
    have hself : (((slf :: ps).zip (Value.ref x :: us)).reverse).lookup slf = some (.ref x) := by rw [lookup_rev P.nd]; simp [List.lookup]
    have hvof : ∀ p ∈ ps, vofP (slf :: ps) (.ref x :: vs) p = vofP ps vs p := fun p hp => by
      have : (p == slf) = false := by
        have := (List.nodup_cons.mp P.nd).1
        simp only [beq_eq_false_iff_ne, ne_eq]
        intro e; exact this (e ▸ hp)
      unfold vofP
      simp [List.lookup, this]
    have hx0 := kp _ _ hx
    refine ks_wpAt_execs_cons ?_
    show _root_.PySem.wpAt (model prog w) _ (.func _ (ksEnv qual scope s.heap.objs.size f (.ref cda) cc)) (exec _ (ksEnv qual scope s.heap.objs.size f (.ref cda) cc)) _ _ _
    obtain ⟨pl, hev⟩ := (hT (ksEnv qual scope s.heap.objs.size f (.ref cda) cc)).hev
    have hmL : ∀ p, (ksEnv qual scope s.heap.objs.size f (.ref cda) cc).kindOf p = some .local → ∃ u, (((slf :: ps).zip (Value.ref x :: us)).reverse).lookup p = some u ∧ RelV (vofP (slf :: ps) (.ref x :: vs) p) u := fun p hp => hz (P.only (p, .local) (PySem.mem_of_lookup hp) rfl)
    refine sup_own (fd := ksFn name qual params _ scope .none kV doc pm an (.ref cda) ct cc) (ar := ar) (t := t) M (by rw [hars]; exact S) T (fun b o e => kp b o (bk b o e)) hns lk har (by rw [hars]; exact hself) hx0 hf2 hfn2 lk2 hv2 hfile lk3 hD hsub hm (Rv := fun v => RelV (r0 (vofP (slf :: ps) (.ref x :: vs))) v)
      (fun s1 Q1 hn1 hq => (h0 (ksEnv qual scope s.heap.objs.size f (.ref cda) cc) _ rfl).run S.kind rfl hmL hn1 hq) (fun h' tk v rv0 kq => ?_) (hT _).hs hev (hT _).hst
    have e0' : r0 (vofP (slf :: ps) (.ref x :: vs)) = r0 (vofP ps vs) := hr0 _ _ hvof
    rw [e0'] at rv0
    have dd : (A.deeper (ksEnv qual scope s.heap.objs.size f (.ref cda) cc)).depth + k < recursionLimit := by
      show A.depth + 1 + k < _
      omega
    refine F2 _ _ x t [v] [r0 (vofP ps vs)] fs2 _ dd (fun b o e => kq b o (kp b o (bk b o e))) hxb (kq _ _ hx0) (.cons rv0 .nil) hfs2 fun h2 tk2 t' dx m k2 hdx hx2 hn2 rel => ?_
    have sz : s.heap.objs.size < h'.objs.size := by
      obtain ⟨oL, es, ep, hL, r⟩ := hns
      exact Heap.lt_size (kq _ _ hL)
    have hdx' : s.heap.objs.size < dx := Nat.lt_of_lt_of_le sz hdx
    have kL : s.heap.objs.size ≠ x := hxs.symm
    have hns' : h2.Ns s.heap.objs.size (fun y => ((slf :: ps).zip (Value.ref x :: us)).reverse.lookup y) := by
      obtain ⟨oL, es, ep, hL, r⟩ := hns
      exact ⟨oL, es, ep, k2 _ _ kL (kq _ _ hL), r⟩
    have nbx : ∀ {b : Addr} {o : Obj}, base.get? b = some o → b ≠ x := fun {b o} e z => by
      rw [z, hxb] at e
      cases e
    have hxd : x ≠ dx := Nat.ne_of_lt (Nat.lt_trans (Heap.lt_size hx) hdx')
    refine wpAt_of_wpAny (asgs_run (env := ksEnv qual scope s.heap.objs.size f (.ref cda) cc) (vof := vofP (slf :: ps) (.ref x :: vs)) (s := { s with heap := h2, toks := tk2 }) SF M.mod.kin T hh S.kind rfl (P.loc slf (List.mem_cons_self ..)) hds hself (ha _ rfl) (fun b o e => ⟨k2 b o (nbx e) (kq b o (kp b o (bk b o e))), Nat.ne_of_lt (Nat.lt_trans (Heap.lt_size (bk b o e)) hdx')⟩)
      (fun fp hm => ⟨(hl fp hm).1, hz (List.mem_cons_of_mem _ (hl fp hm).2)⟩) hns' (Nat.ne_of_lt hdx') hxd hx2 hn2 rel (by have := hG2 _ _ hfs2; omega) fun h3 tk3 m3 k3 hx3 hn3 rel3 => ?_)
    have hfold : ∀ (l' : List (Str × Str)) (fs : List (Str × V)), (∀ fp ∈ l', fp.2 ∈ ps) → l'.foldl (fun fs fp => (fp.1, vofP (slf :: ps) (.ref x :: vs) fp.2) :: fs) fs = l'.foldl (fun fs fp => (fp.1, vofP ps vs fp.2) :: fs) fs := by
      intro l'
      induction l' with
      | nil => intro fs _; rfl
      | cons fp l' ih =>
        intro fs hm
        rw [List.foldl_cons, List.foldl_cons, hvof _ (hm fp (List.mem_cons_self ..))]
        exact ih _ fun q hq => hm q (List.mem_cons_of_mem _ hq)
    rw [hfold l fs2 (fun fp hm => (hl fp hm).2), hfs] at rel3
    exact h h3 tk3 t' dx m3 (fun b o hb e => k3 b o (Nat.ne_of_lt (Nat.lt_trans (Heap.lt_size e) hdx')) (k2 b o hb (kq b o (kp b o e)))) (Nat.le_of_lt hdx') hx3 hn3 rel3
  · cases hG
end
end ZX
/-! ZX1: exceptions on data: made, read, asked, raised, caught. -/
namespace Z
open PySem PySem.Spec L2
/-- the exceptions of a class: its fields by the call's values -/
def excFs (tag : Str) (flds : List Str) (vs : List V) : List (Str × V) := (flds.zip vs).reverse ++ [(("tag" : Str), V.str tag)]
structure XMk (P : Program) (w : World) (K : PySem.W.Frag) (mg : Str → Option Value) (base : Heap) (c : Str) (C : Addr) (k : Nat) (tag : Str) (flds : List Str) : Prop where
  hm : mg c = some (.ref C)
  keep : PySem.W.keepIn K (.ref C) = true
  ex : L2.Mod K mg base → ∃ (B newId initId : String) (bmB : List Value) (fI : Addr), PySem.ExcBaseFacts B newId initId bmB ∧ PySem.W.excInitIn K C bmB newId = true ∧ PySem.W.findIn K (.ref C) "__init__" = some (some (.ref fI)) ∧ PySem.W.typeIn K (.ref fI) = some (.type "function") ∧
    ZX.InitOk P w base k fI C (fun vs => if vs.length = flds.length then some (excFs tag flds vs) else none)
  exC : PySem.W.subIn K (.ref C) (.type "BaseException") = some true
  tyC : PySem.W.typeIn K (.ref C) = some (.type "type")
theorem repL_rev {K : PySem.W.Frag} {mg : Str → Option Value} {ρ : List Addr} {H : Hp} : ∀ {ds : List D} {vs : List V}, RepL K mg ρ H ds vs → RepL K mg ρ H ds.reverse vs.reverse
  | [], _, h => by rw [RepL] at h; subst h; exact RepL.nil
  | d :: ds, _, h => by
    rw [RepL] at h
    obtain ⟨v, r, e, h1, h2⟩ := h
    subst e
    rw [List.reverse_cons, List.reverse_cons]
    exact (repL_rev h2).append (RepL.cons h1 RepL.nil)
theorem zipx_fst : ∀ {a : List Str} {b : List V}, b.length = a.length → (a.zip b).map (·.1) = a
  | [], [], _ => rfl
  | x :: a, y :: b, h => by simp [zipx_fst (a := a) (b := b) (by simpa using h)]
theorem zipx_snd : ∀ {a : List Str} {b : List V}, b.length = a.length → (a.zip b).map (·.2) = b
  | [], [], _ => rfl
  | x :: a, y :: b, h => by simp [zipx_snd (a := a) (b := b) (by simpa using h)]
theorem excFs_rep {K : PySem.W.Frag} {mg : Str → Option Value} {ρ : List Addr} {H : Hp} {tag : Str} {flds : List Str} {ds : List D} {vs : List V} (r : RepL K mg ρ H ds vs) (hl : ds.length = flds.length) : vs.length = flds.length ∧ (excFs tag flds vs).map (·.1) = flds.reverse ++ [("tag" : Str)] ∧ RepL K mg ρ H (ds.reverse ++ [D.str tag]) ((excFs tag flds vs).map (·.2)) := by
  have hv : vs.length = flds.length := by rw [← r.len]; exact hl
  refine ⟨hv, ?_, ?_⟩
  · unfold excFs
    rw [List.map_append, List.map_reverse, zipx_fst hv]; rfl
  · unfold excFs
    rw [List.map_append, List.map_reverse, zipx_snd hv]
    exact (repL_rev r).append (RepL.cons (by rw [Rep]) RepL.nil)
section
variable {X : Cx} {pins : List (Addr × Obj)} {σ : L2.St} {H : Hp} {s : Shared}
/-- two new things are laid -/
theorem inv_two {h' : Heap} {t' : Nat} {a d : Addr} {oa od : HO} (I : Inv X pins σ H s) (k : ∀ b o, s.heap.get? b = some o → h'.get? b = some o) (ha : s.heap.objs.size ≤ a) (hd : s.heap.objs.size ≤ d) (ne : a ≠ d)
    (na : ObjOk X.prog X.w (upd (upd H d od) a oa) h' a oa) (nd : ObjOk X.prog X.w (upd (upd H d od) a oa) h' d od) (ga : ∃ o, h'.get? a = some o) (gd : ∃ o, h'.get? d = some o) : Inv X pins σ (upd (upd H d od) a oa) { s with heap := h', toks := t' } := by
  have hna : H a = none := I.hok.fresh ha
  have hnd : H d = none := I.hok.fresh hd
  have lt : ∀ {b : Addr} {o : Obj}, s.heap.get? b = some o → b ≠ a ∧ b ≠ d := fun {b o} e => ⟨Nat.ne_of_lt (Nat.lt_of_lt_of_le (Heap.lt_size e) ha), Nat.ne_of_lt (Nat.lt_of_lt_of_le (Heap.lt_size e) hd)⟩
  have at_ : ∀ {b : Addr}, b ≠ a → b ≠ d → upd (upd H d od) a oa b = H b := fun {b} h1 h2 => by rw [upd_ne h1, upd_ne h2]
  have sm : ∀ {b : Addr} {u : HO}, H b = some u → upd (upd H d od) a oa b = some u := fun {b u} e => by rw [at_ (ne_of_none e hna) (ne_of_none e hnd)]; exact e
  refine I.un (t' := t') { keep := fun b o e n _ _ => k b o e, slot := fun b o e n _ _ => ⟨o.slots, k b o e⟩, free := fun b o e n _ => by rw [at_ (lt e).1 (lt e).2]; exact n, there := fun b o e _ => ⟨o, k b o e⟩, tups := fun b xs e => sm e, frzs := fun b o u e => sm e, tbls := fun b ps e => ⟨#[], by rw [sm e]; simp⟩ } fun b o e => ?_
  by_cases h1 : b = a
  · subst h1
    rw [upd_same] at e; cases e
    exact na
  · by_cases h2 : b = d
    · subst h2
      rw [upd_ne h1, upd_same] at e; cases e
      exact nd
    · rw [at_ h1 h2] at e
      exact (I.hok b o e).stay (fun c v _ q => k c v q) (fun c q => sm q) fun c xs q => sm q
/-- C(..) of an exception class, over the heap -/
theorem exc_core {c : Str} {C : Addr} {k : Nat} {tag : Str} {flds : List Str} {us : List Value} {vs : List V} {Q : Value → Shared → Prop} (M : XMk X.prog X.w X.K X.mg X.base c C k tag flds) (hr : Room (k + 1) X.A) (I : Inv X pins σ H s) (r : Vals vs us) (hl : vs.length = flds.length) (hz : flds.length ≤ 100)
    (h : ∀ a d h' tk' t' m, (∀ b o, s.heap.get? b = some o → h'.get? b = some o) → s.heap.objs.size ≤ a → s.heap.objs.size ≤ d → a ≠ d → h'.get? a = some (ZX.exd C t' (some d)) → h'.Ns1 d m → (∀ g, RelO ((excFs tag flds vs).lookup g) (m g)) → Q (.ref a) { s with heap := h', toks := tk' }) :
    wpAny (model X.prog X.w) X.A (call (.ref C) us) Q X.xe s := by
  obtain ⟨B, newId, initId, bmB, fI, FB, q, iC, tI, F⟩ := M.ex I.ok.mod
  obtain ⟨nm, N', qn, bs, bm, hdct, sn, sub, ab, col, dd, k0, k1, k2, k3, k5, hC, hT⟩ := PySem.W.excInit_of I.kIn q
  obtain ⟨hp, g, dr, tk, os⟩ := s
  have hus : us.length = flds.length := by rw [← r.length]; exact hl
  have kk : ∀ b o, hp.get? b = some o → ((hp.push (PySem.W.kdv_tup us)).push (PySem.HandSPX.excO C hp.objs.size)).get? b = some o := fun b o e => Heap.get?_push_of_some _ (Heap.get?_push_of_some _ e)
  have hget : ((hp.push (PySem.W.kdv_tup us)).push (PySem.HandSPX.excO C hp.objs.size)).get? (hp.objs.size + 1) = some (PySem.HandSPX.excO C hp.objs.size) := by heap_get
  have hsz : hp.objs.size + 1 + 1 = ((hp.push (PySem.W.kdv_tup us)).push (PySem.HandSPX.excO C hp.objs.size)).objs.size := by rw [Heap.size_push, Heap.size_push]
  have hbx : X.base.get? (hp.objs.size + 1) = none := by
    cases e : X.base.get? (hp.objs.size + 1) with
    | none => rfl
    | some o => exact absurd (Heap.lt_size (I.bk _ _ e)) (Nat.not_lt.mpr (Nat.le_succ _))
  have dep := (hr.make C us []).dp
  refine wpAny_call (PySem.HandSPX.call_own FB hT hC (PySem.W.looks_findIn I.kIn iC) (fun self => PySem.W.bind_fn I.kIn self tI) (by rw [hus, sizeLine_eq]; omega) ?_)
  refine F _ _ (hp.objs.size + 1) hp.objs.size us vs _ _ (by omega) (fun b o e => kk b o (I.bk b o e)) hbx hget r (if_pos hl) fun h' tk' t' dx m kq hdx hx hn rel => ?_
  refine ⟨rfl, ?_⟩
  have kold : ∀ b o, hp.get? b = some o → h'.get? b = some o := fun b o e => kq b o (Nat.ne_of_lt (Nat.lt_trans (Heap.lt_size e) (Nat.lt_succ_self _))) (kk b o e)
  have hdx' : hp.objs.size + 1 + 1 ≤ dx := by rw [hsz]; exact hdx
  exact h _ dx h' tk' t' m kold (Nat.le_succ _) (Nat.le_of_lt (Nat.lt_of_lt_of_le (Nat.lt_succ_of_lt (Nat.lt_succ_self _)) hdx')) (Nat.ne_of_lt hdx') hx hn rel
/-- .. held: the object and its dict, both new -/
theorem run_exc {c : Str} {C : Addr} {k : Nat} {tag : Str} {flds : List Str} {us : List Value} {vs : List V} {Q : Value → Shared → Prop} (M : XMk X.prog X.w X.K X.mg X.base c C k tag flds) (hr : Room (k + 1) X.A) (I : Inv X pins σ H s) (r : Vals vs us) (hl : vs.length = flds.length) (hz : flds.length ≤ 100)
    (h : ∀ a d s', H a = none → H d = none → a ≠ d → Inv X pins σ (upd (upd H d (.xd (excFs tag flds vs))) a (ExD a C d)) s' → Q (.ref a) s') :
    wpAny (model X.prog X.w) X.A (call (.ref C) us) Q X.xe s := by
  refine exc_core M hr I r hl hz fun a d h' tk' t' m kold ha hd ne hx hn rel => ?_
  have gd : ∃ o, h'.get? d = some o := by
    obtain ⟨o, es, ep, e, _⟩ := hn
    exact ⟨o, e⟩
  exact h a d _ (I.hok.fresh ha) (I.hok.fresh hd) ne (inv_two (t' := tk') (oa := ExD a C d) (od := .xd (excFs tag flds vs)) I kold ha hd ne ⟨⟨_, _, hx, ⟨rfl, rfl⟩, rfl⟩, ⟨_, hx⟩, fun h1 h2 ⟨oe, ws, e, z⟩ st => ⟨oe, ws, st _ e, z⟩⟩ ⟨m, hn, rel⟩ ⟨_, hx⟩ gd)
end
/-! ### on data -/
def excS (c tag : Str) (flds : List Str) : SemL := fun ds S => if ds.length = flds.length then .ok (.exc c (flds.reverse ++ [("tag" : Str)]) (ds.reverse ++ [D.str tag])) S else .bad
section
variable {X : Cx} {W : WX} {k : Nat} {C : Addr} {x tag : Str} {flds : List Str} {p pos : Pos} {e : Expr} {es : List Expr} {fa : AX}
theorem post_exc {K : PySem.W.Frag} {mg : Str → Option Value} {ρ : List Addr} {H : Hp} {S : Store} {ds : List D} {vs : List V} {Q : VK} {E : Value → Option Addr → Hp → Prop} {a d : Addr} (hm : mg x = some (.ref C)) (w : WOk K mg ρ H S) (r : RepL K mg ρ H ds vs) (hl : ds.length = flds.length) (ha : H a = none) (hd : H d = none) (ne : a ≠ d)
    (p : PostE K mg E ρ H Q (.ok (.exc x (flds.reverse ++ [("tag" : Str)]) (ds.reverse ++ [D.str tag])) S)) : Q (.ref a) (upd (upd H d (.xd (excFs tag flds vs))) a (ExD a C d)) := by
  have x1 : Ext ρ H ρ (upd H d (.xd (excFs tag flds vs))) := Ext.new' hd
  have ha1 : upd H d (.xd (excFs tag flds vs)) a = none := by rw [upd_ne ne]; exact ha
  have x2 : Ext ρ H ρ (upd (upd H d (.xd (excFs tag flds vs))) a (ExD a C d)) := x1.trans (Ext.new' ha1)
  obtain ⟨_, e1, e2⟩ := excFs_rep (tag := tag) r hl
  refine p _ ρ _ x2 ((w.new' hd).new' ha1) ?_
  rw [Rep]
  exact ⟨a, C, d, _, rfl, w.nin ha, w.nin hd, hm, upd_same, by rw [upd_ne (Ne.symm ne), upd_same], e1, e2.ext x2⟩
theorem r_excZ (M : XMk X.prog X.w X.K X.mg X.base x C k tag flds) (hr : Room (k + 1) X.A) (hz : flds.length ≤ 100) (ha : EA X W (e :: es) fa) (hg : Gl X x := by rfl)
    (hdb : (x == ("__debug__" : Str)) = false := by decide) (he : starEach (e :: es) X.env = (false, eval e X.env) :: starEach es X.env := by rfl) (hpl : (backTo pos (starEach es X.env)).any (·.1) = false := by rfl) :
    E X W (.Call (.Name x p) (e :: es) [] pos) (eArgs (excS x tag flds) fa) := by
  refine ⟨fun pins s σ H Q I h => ?_⟩
  refine wpAny_Call_Name_kw (ld_glob I hg M.hm ?_ hdb)
  have h' := argsem_imp (k := fun vs H1 => ∃ ρ S ds, WOk X.K X.mg ρ H1 S ∧ RepL X.K X.mg ρ H1 ds vs ∧ PostE X.K X.mg (WE W σ) ρ H1 Q (excS x tag flds ds S)) h fun ρ S H1 ds vs w r p => ⟨ρ, S, ds, w, r, p⟩
  refine PySem.W.callWith_K (h₀ := X.base) I.ok.mod.kin M.keep (thn (ha.run pos pins s σ H _ I h') fun us s1 ⟨vs, H1, I1, r, ρ1, S1, ds, w1, rl, q⟩ => ⟨I1.kIn, ?_⟩) he hpl
  unfold excS at q
  split at q
  · rename_i hl
    exact run_exc M hr I1 r (by rw [← rl.len]; exact hl) hz fun a d s' na nd ne J => ⟨.ref a, _, J, rfl, post_exc M.hm w1 rl hl na nd ne q⟩
  · exact q.elim
theorem r_excZ0 (M : XMk X.prog X.w X.K X.mg X.base x C k tag []) (hr : Room (k + 1) X.A) (hg : Gl X x := by rfl) (hdb : (x == ("__debug__" : Str)) = false := by decide) :
    E X W (.Call (.Name x p) [] [] pos) (eArgs (excS x tag []) aNil) := by
  refine ⟨fun pins s σ H Q I h => ?_⟩
  refine wpAny_Call_Name_kw (ld_glob I hg M.hm ?_ hdb)
  obtain ⟨ρ, S, sl, w, rs, q⟩ := h
  exact PySem.W.callWith_K0 I.kIn M.keep (run_exc (us := []) (vs := []) M hr I .nil rfl (by decide) fun a d s' na nd ne J => ⟨.ref a, _, J, rfl, post_exc (flds := []) (ds := []) M.hm w RepL.nil rfl na nd ne q⟩)
/-! ### raise -/
def sRaise (f : EX) : SX := fun sl S => match f sl S with
  | .ok (.exc c ns ds) S' => .ex (.ins c ns ds) sl S'
  | .ok _ _ => .bad
  | .ex e S' => .ex e sl S'
  | .bad => .bad
end
end Z
/-! ZX2: try .. except T as n: the exception is held as a value in the suite. -/
namespace L2
open PySem PySem.Spec PyProof.Rows
end L2
/-! ZX3: on data: try, a held exception read and asked, defs called within an except suite. -/
namespace Z
open PySem PySem.Spec L2 PyProof.Rows
/-! ### defs called within an except suite -/
/-! ### e.f of a held exception -/
def eXat (f : Str) (cs : List Str) (fo : EX) : EX := fun sl S => (fo sl S).bind fun d S1 => match d with
  | .exc c ns vs => if c ∈ cs then (match lookN f ns vs with
    | some v => .ok v S1
    | none => .bad) else .bad
  | _ => .bad
/-- the classes whose held instances have the field -/
def XatOk (X : Cx) (f : Str) (cs : List Str) : Prop := ∀ c ∈ cs, ∀ C, X.mg c = some (.ref C) → XfC X.K C ∧ PySem.W.findIn X.K (.ref C) f = some none
theorem r_xat {X : Cx} {W : WX} {f : Str} {cs : List Str} {o : Expr} {fo : EX} {pos : Pos} (ht : XatOk X f cs) (ho : E X W o fo) (hb : attributeBase o f X.env (eval o X.env) = eval o X.env := by rfl) : E X W (.Attribute o f pos) (eXat f cs fo) := by
  refine ⟨fun pins s σ H Q I h => ?_⟩
  obtain ⟨ρ, S, sl, w, rs, p⟩ := h
  refine attr_of hb (thn (ho.run pins s σ H _ I ⟨ρ, S, sl, w, rs, PostE.bindE p⟩) fun u s1 ⟨x, H1, I1, rx, ρ1, S1, d, x1, w1, r1, _, p1⟩ => ?_)
  cases d with
  | exc c ns vs =>
    dsimp only at p1
    split at p1
    · rename_i hc
      rw [Rep] at r1
      obtain ⟨a, C, dd, fs, ex, na, nd, hm, ha, hd, hn, rl⟩ := r1
      subst ex
      obtain rfl : u = Value.ref a := rx
      obtain ⟨T, hno⟩ := ht c hc C hm
      split at p1
      · rename_i v ev
        obtain ⟨v', h1, h2⟩ := lookN_rep hn rl ev
        obtain ⟨⟨oe, ws, he, hz, hdt⟩, _, _⟩ : ObjOk X.prog X.w H1 s1.heap a (.ext fun h => ∃ (oe : Obj) (vs : Array Value), h.get? a = some oe ∧ Zc (.ref C) (some dd) oe ∧ oe.data = .fields vs) := I1.hok a _ ha
        have hx : ObjOk X.prog X.w H1 s1.heap dd (.xd fs) := I1.hok dd _ hd
        obtain ⟨mA, hns, hr⟩ := hx
        obtain ⟨od, ho', hl⟩ := lookIn_ns hns
        obtain ⟨u', hu, ru⟩ := RelO.some_of (v := v') (o := mA f) (by rw [← h1]; exact hr f)
        have J : PySem.W.InstAt s1.heap a oe C (some od) := ⟨he, hz.1, by unfold PySem.W.notCls; rw [hdt] <;> rfl, by rw [hz.2]; exact ho'⟩
        exact HandSPX.exc_get I1.kIn J T.ga T.gg T.exC (PySem.W.findObj_own T.hdC hno rfl (by rw [hl, hu])) (handed_of ru) ⟨v', H1, I1.tok _, ru, post_ok p1 w1 h2⟩
      · exact p1.elim
    · exact p1.elim
  | _ => exact p1.elim
/-! ### try -/
def sTry (tab : List (Str × Bool)) (i : Nat) (fb fs : SX) : SX := fun sl S => match fb sl S with
  | .ex (.ins c ns ds) sl1 S1 => (match tab.lookup c with
    | some true => (match fs (sl1.set i (some (.exc c ns ds))) S1 with
      | .nx sl2 S2 => .nx (sl2.set i none) S2
      | .bk sl2 S2 => .bk (sl2.set i none) S2
      | .ct sl2 S2 => .ct (sl2.set i none) S2
      | .rt d S2 => .rt d S2
      | _ => .bad)
    | some false => .ex (.ins c ns ds) sl1 S1
    | none => .bad)
  | o => o
end Z
/-! ZX4: lambdas: cells tracked and let go. -/
namespace Z
open PySem PySem.Spec L2 PyProof.Rows
abbrev Cs := List (Addr × Obj)
/-- the cells stand in the heap, nobody tracks them -/
structure CsOk (cs : Cs) (fs : List Addr) (H : Hp) (h : Heap) : Prop where
  get : ∀ c o, cs.lookup c = some o → h.get? c = some o
  non : ∀ c o, cs.lookup c = some o → H c = none
  nofs : ∀ c o, cs.lookup c = some o → c ∉ fs
/-- the cells are tracked -/
def CsIn (cs : Cs) (H : Hp) : Prop := ∀ c o, cs.lookup c = some o → H c = some (.frz o (.own 0))
section
variable {P : Program} {w : World} {cs : Cs} {fs ρ : List Addr} {H H' H2 : Hp} {h h' : Heap} {K : PySem.W.Frag} {mg : Str → Option Value} {S : Store}
theorem CsOk.out (c : CsOk cs fs H h) {b : Addr} {u : HO} (e : H b = some u) : cs.lookup b = none := by
  cases q : cs.lookup b with
  | none => rfl
  | some o => rw [c.non b o q] at e; cases e
theorem CsIn.out (c : CsIn cs H) {b : Addr} {u : HO} (e : H b = some u) (n : ∀ o, u ≠ .frz o (.own 0)) : cs.lookup b = none := by
  cases q : cs.lookup b with
  | none => rfl
  | some o => rw [c b o q] at e; cases e; exact absurd rfl (n o)
def noLcS (S : Store) : Bool := S.all noLcM
theorem CsOk.un (c : CsOk cs fs H h) (u : Un fs [] H H' h h') : CsOk cs fs H' h' := ⟨fun b o q => u.keep b o (c.get b o q) (c.non b o q) (c.nofs b o q) (by simp), fun b o q => u.free b o (c.get b o q) (c.non b o q) (by simp), c.nofs⟩
end
end Z
/-! ZX5: lambdas handed to a def. -/
namespace Z
open PySem PySem.Spec L2 PyProof.Rows
def slotAt (N : List Str) (sl : Sl) (n : Str) : Option D := ((N.zip sl).lookup n).bind id
def capsOf (N : List Str) (sl : Sl) : List Str → Option (List D)
  | [] => some []
  | n :: ns => match slotAt N sl n, capsOf N sl ns with
    | some d, some r => some (d :: r)
    | _, _ => none
/-- what a def of cells cn may hand on -/
def lamFit (cn : List Str) (κ : List (Str × Addr)) (T : LamText) (clo : List (Str × Addr)) : Prop := clo = cloFrom κ T.scope.names [] ∧ T.names.Nodup ∧ ∀ n ∈ T.names, n ∈ cn ∧ T.scope.names.lookup n = some .free
noncomputable section
open Classical in
mutual
def conv (cn N : List Str) (κ : List (Str × Addr)) (sl : Sl) : D → Option D
  | .lam T clo => if lamFit cn κ T clo then (capsOf N sl T.names).map (.lamc T) else none
  | .lst xs => (convL cn N κ sl xs).map .lst
  | .tup xs => (convL cn N κ sl xs).map .tup
  | d => some d
def convL (cn N : List Str) (κ : List (Str × Addr)) (sl : Sl) : List D → Option (List D)
  | [] => some []
  | d :: ds => match conv cn N κ sl d, convL cn N κ sl ds with
    | some a, some b => some (a :: b)
    | _, _ => none
end
end
/-! ### f(e, ..) where lambdas are handed on -/
noncomputable def callL (cn N : List Str) (κ : List (Str × Addr)) (g : SemL) (fa : AX) : EX := fun sl S => (fa sl S).bind fun ds S1 => match convL cn N κ sl ds with
  | some ds' => (match g ds' S1 with
    | .ok d S2 => if noLc d = true ∧ noLcS S2 = true then .ok d S2 else .bad
    | _ => .bad)
  | none => .bad
end Z
/-! ZX6: a lambda that was handed on is called. -/
namespace Z
open PySem PySem.Spec L2 PyProof.Rows
/-- the cells of the names, untracked -/
def CellsH (H : Hp) (h : Heap) (clo : List (Str × Addr)) : List Str → List V → Prop
  | [], vs => vs = []
  | n :: ns, vs => ∃ v r c o u, vs = v :: r ∧ clo.lookup n = some c ∧ H c = none ∧ h.get? c = some o ∧ o.data = .cell (some u) ∧ RelV v u ∧ (∀ m ∈ ns, clo.lookup m ≠ some c) ∧ CellsH H h clo ns r
def DfH (h : Heap) (dvs : List V) (dV : Value) : Prop := (dvs = [] ∧ dV = .none) ∨ (dvs ≠ [] ∧ ∃ (t : Addr) (us : List Value), dV = .ref t ∧ Vals dvs us ∧ IsTup h t us.toArray)
/-- what a lambda's text keeps, called with its captured values -/
def LamOk (P : Program) (w : World) (K : PySem.W.Frag) (mg : Str → Option Value) (base : Heap) (k : Nat) (T : LamText) (l : SemL) : Prop :=
  ∀ (A : Around) (outer : List Env) (s : Shared) (H : Hp) (f c' : Addr) (clo : List (Str × Addr)) (pm doc dV ctv : Value) (ρ : List Addr) (S : Store) (caps : List D) (vs : List V) (Q : VK) (E : XK), Room k A → Env0 P w K mg base A outer s H →
    s.heap.get? f = some (PySem.W.kdv_obj "<lambda>" T.qual T.params (.expr T.body) T.scope clo dV doc pm c' ctv) → (∃ (oc : Obj) (ws : Array Value) (t : Tok), s.heap.get? c' = some oc ∧ oc.data = .fields ws ∧ ws[1]? = some (.str T.qual t)) → DfH s.heap T.dvs dV → CellsH H s.heap clo T.names vs → (∃ κ, clo = cloFrom κ T.scope.names []) →
    WOk K mg ρ H S → RepL K mg ρ H caps vs → PostE K mg E ρ H Q (l caps S) → codeAny (model P w) A (.call (.ref f) ⟨[], []⟩) (CR (L2.CX P w) outer P w H s Q E) s
end Z
/-! ZX7: a lambda by its body. -/
namespace Z
open PySem PySem.Spec L2 PyProof.Rows
end Z
/-! ZX8: a lambda is made. -/
namespace Z
open PySem PySem.Spec L2 PyProof.Rows
section
variable {X : Cx} {pins : List (Addr × Obj)} {σ : L2.St} {H : Hp} {s : Shared}
/-- a lambda, its text told -/
def eLam (ti : Nat) (P : Addr) (κ : List (Str × Addr)) (T : LamText) : EX := fun _ S => match S[ti]? with
  | some (.tab P' q) => open Classical in if P' = P ∧ q = T.qual then .ok (.lam T (cloFrom κ T.scope.names [])) S else .bad
  | _ => .bad
variable {W : WX} {ti : Nat} {c P : Addr} {T : LamText} {pos : Pos}
end
end Z
/-! ZX9: the law's start with a table of code objects. -/
namespace Z
open PySem PySem.Spec L2 PyProof.Rows
end Z
/-! ZXa: the plain calculus of exceptions and lambdas. -/
namespace Z
open PySem L2
section
variable {Q : Q0} {sl : Sl} {S : Store} {P : D → Store → Prop} {X : D → Store → Prop}
/-- what the suite's end is worth behind the clause -/
def suiteQ (i : Nat) (Q : Q0) : Q0 := ⟨fun sl S => Q.nx (sl.set i none) S, fun sl S => Q.bk (sl.set i none) S, fun sl S => Q.ct (sl.set i none) S, Q.rt, fun _ _ _ => False⟩
def catchQ (tab : List (Str × Bool)) (i : Nat) (fs : SX) (Q : Q0) (e : D) (sl : Sl) (S : Store) : Prop := match e with
  | .ins c ns ds => match tab.lookup c with
    | some true => Wo (fs (sl.set i (some (.exc c ns ds))) S) (suiteQ i Q)
    | some false => Q.ex (.ins c ns ds) sl S
    | none => False
  | e => Q.ex e sl S
end
end Z
/-! ZH: further built-ins: sum, abs, max, min, bool, str, dict of a tuple, x[::-1]. -/
namespace Z
open PySem PySem.Spec L2
section
variable {X : Cx}
def semBool : SemL := fun ds S => match ds with
  | [.int i] => .ok (.bl (i != 0)) S
  | [.bl b] => .ok (.bl b) S
  | _ => .bad
/-! ### max, min of two -/
end
/-! ### .. of two texts -/
/-! ### the least of a list of alike data -/
end Z
/-! ZY0: operators of own classes by their special methods; isinstance of own classes. -/
namespace PySem.W
open PySem PySem.Calls PyProof.Rows Builtin
end PySem.W
/-! ZY1: operators that may raise, and own classes' operators, by data. -/
namespace Z
open PySem PySem.Spec L2 PyProof.Rows
/-- an operator by data that may raise -/
structure OpW (X : Cx) (W : WX) (f : Value → Value → Sem Value) (sem : Sem2) : Prop where
  go : ∀ (pins : List (Addr × Obj)) (s : Shared) (σ : L2.St) (ρ : List Addr) (H : Hp) (S : Store) (d e : D) (x y : V) (v u : Value) (Q : VK), Inv X pins σ H s → RelV x v → RelV y u → WOk X.K X.mg ρ H S → Rep X.K X.mg ρ H d x → Rep X.K X.mg ρ H e y →
    PostE X.K X.mg (fun C dd H' => W C dd σ H') ρ H Q (sem d e S) → wpAny (model X.prog X.w) X.A (f v u) (EP X pins σ Q) X.xe s
structure UnW (X : Cx) (W : WX) (f : Value → Sem Value) (sem : Sem1) : Prop where
  go : ∀ (pins : List (Addr × Obj)) (s : Shared) (σ : L2.St) (ρ : List Addr) (H : Hp) (S : Store) (d : D) (x : V) (v : Value) (Q : VK), Inv X pins σ H s → RelV x v → WOk X.K X.mg ρ H S → Rep X.K X.mg ρ H d x →
    PostE X.K X.mg (fun C dd H' => W C dd σ H') ρ H Q (sem d S) → wpAny (model X.prog X.w) X.A (f v) (EP X pins σ Q) X.xe s
structure CallW (X : Cx) (W : WX) (f : Value) (sem : SemL) : Prop where
  go : ∀ (pins : List (Addr × Obj)) (s : Shared) (σ : L2.St) (ρ : List Addr) (H : Hp) (S : Store) (ds : List D) (xs : List V) (us : List Value) (Q : VK), Inv X pins σ H s → Vals xs us → WOk X.K X.mg ρ H S → RepL X.K X.mg ρ H ds xs →
    PostE X.K X.mg (fun C dd H' => W C dd σ H') ρ H Q (sem ds S) → wpAny (model X.prog X.w) X.A (call f us) (EP X pins σ Q) X.xe s
/-- a value's truth -/
abbrev SemB := D → Store → Out Bool
structure TruW (X : Cx) (W : WX) (sem : SemB) : Prop where
  go : ∀ (pins : List (Addr × Obj)) (s : Shared) (σ : L2.St) (ρ : List Addr) (H : Hp) (S : Store) (d : D) (x : V) (v : Value) (Q : Bool → Hp → Prop), Inv X pins σ H s → RelV x v → WOk X.K X.mg ρ H S → Rep X.K X.mg ρ H d x →
    PostB X.K X.mg (fun C dd H' => W C dd σ H') ρ H Q (sem d S) → wpAny (model X.prog X.w) X.A (truthy v) (TP X pins σ Q) X.xe s
def orSB (f g : SemB) : SemB := fun d S => match f d S with
  | .bad => g d S
  | r => r
section
variable {X : Cx} {W : WX} {a b : Expr} {fa fb : EX} {pos : Pos}
theorem OpD.w {f : Value → Value → Sem Value} {sem : Sem2} (h : OpD X f sem) : OpW X W f sem := ⟨fun pins s σ ρ H S d e x y v u Q I rv ru w rx ry p => by
  obtain ⟨r, o, g⟩ := h.go
  exact o pins s σ H x y v u Q I rv ru (g _ ρ H S d e x y Q w rx ry p)⟩
theorem UnD.w {f : Value → Sem Value} {sem : Sem1} (h : UnD X f sem) : UnW X W f sem := ⟨fun pins s σ ρ H S d x v Q I rv w rx p => by
  obtain ⟨r, o, g⟩ := h.go
  exact o pins s σ H x v Q I rv (g _ ρ H S d x Q w rx p)⟩
theorem CallD.w {f : Value} {sem : SemL} (h : CallD X f sem) : CallW X W f sem := ⟨fun pins s σ ρ H S ds xs us Q I rv w rx p => by
  obtain ⟨r, o, g⟩ := h.go
  exact o pins s σ H xs us Q I rv (g _ ρ H S ds xs Q w rx p)⟩
theorem OpW.or {f : Value → Value → Sem Value} {s t : Sem2} (h : OpW X W f s) (h' : OpW X W f t) : OpW X W f (orS2 s t) := ⟨fun pins s0 σ ρ H S d e x y v u Q I rv ru w rx ry p => by
  unfold orS2 at p
  cases q : s d e S with
  | bad => rw [q] at p; exact h'.go pins s0 σ ρ H S d e x y v u Q I rv ru w rx ry p
  | ok a b => rw [q] at p; exact h.go pins s0 σ ρ H S d e x y v u Q I rv ru w rx ry (by rw [q]; exact p)
  | ex a b => rw [q] at p; exact h.go pins s0 σ ρ H S d e x y v u Q I rv ru w rx ry (by rw [q]; exact p)⟩
theorem UnW.or {f : Value → Sem Value} {s t : Sem1} (h : UnW X W f s) (h' : UnW X W f t) : UnW X W f (orS1 s t) := ⟨fun pins s0 σ ρ H S d x v Q I rv w rx p => by
  unfold orS1 at p
  cases q : s d S with
  | bad => rw [q] at p; exact h'.go pins s0 σ ρ H S d x v Q I rv w rx p
  | ok a b => rw [q] at p; exact h.go pins s0 σ ρ H S d x v Q I rv w rx (by rw [q]; exact p)
  | ex a b => rw [q] at p; exact h.go pins s0 σ ρ H S d x v Q I rv w rx (by rw [q]; exact p)⟩
theorem CallW.or {f : Value} {s t : SemL} (h : CallW X W f s) (h' : CallW X W f t) : CallW X W f (orSL s t) := ⟨fun pins s0 σ ρ H S d x v Q I rv w rx p => by
  unfold orSL at p
  cases q : s d S with
  | bad => rw [q] at p; exact h'.go pins s0 σ ρ H S d x v Q I rv w rx p
  | ok a b => rw [q] at p; exact h.go pins s0 σ ρ H S d x v Q I rv w rx (by rw [q]; exact p)
  | ex a b => rw [q] at p; exact h.go pins s0 σ ρ H S d x v Q I rv w rx (by rw [q]; exact p)⟩
theorem TruW.or {s t : SemB} (h : TruW X W s) (h' : TruW X W t) : TruW X W (orSB s t) := ⟨fun pins s0 σ ρ H S d x v Q I rv w rx p => by
  unfold orSB at p
  cases q : s d S with
  | bad => rw [q] at p; exact h'.go pins s0 σ ρ H S d x v Q I rv w rx p
  | ok a b => rw [q] at p; exact h.go pins s0 σ ρ H S d x v Q I rv w rx (by rw [q]; exact p)
  | ex a b => rw [q] at p; exact h.go pins s0 σ ρ H S d x v Q I rv w rx (by rw [q]; exact p)⟩
/-- a test by a value's truth -/
def bTru (sem : SemB) (f : EX) : BX := fun sl S => (f sl S).bind sem
/-! ### own classes' operators -/
/-- what may stand at the right: one of the same class, or of a built-in type -/
def okRt (S : Store) (c : Str) (e : D) : Bool := match fldsOf S e with
  | some (c', _, _) => decide (c' = c)
  | none => (kdOf S e).isSome
def ownOp (tab : List (Str × SemL)) : Sem2 := fun d e S => match fldsOf S d with
  | some (c, _, _) => (match tabOf tab c with
    | some g => if okRt S c e = true then g [d, e] S else .bad
    | none => .bad)
  | none => .bad
/-! -o, truth, ==, != -/
def own1 (tab : List (Str × SemL)) : Sem1 := fun d S => match fldsOf S d with
  | some (c, _, _) => (match tabOf tab c with
    | some g => g [d] S
    | none => .bad)
  | none => .bad
def asB : D → Store → Out Bool := fun r S => match r with
  | .bl b => .ok b S
  | _ => .bad
def truPl : SemB := asB
def ownTru (tab : List (Str × SemL)) : SemB := fun d S => (own1 tab d S).bind asB
/-- what may stand at the right of == -/
def okRtE (oth : List Str) (S : Store) (e : D) : Bool := match fldsOf S e with
  | some (c', _, _) => decide (c' ∈ oth)
  | none => (kdOf S e).isSome
def ownEq (neg : Bool) (oth : List Str) (tab : List (Str × SemL)) : Sem2 := fun d e S => match fldsOf S d with
  | some (c, _, _) => (match tabOf tab c with
    | some g => if okRtE oth S e = true then (g [d, e] S).bind (fun r S' => match r with
      | .bl b => .ok (.bl (if neg = true then !b else b)) S'
      | _ => .bad) else .bad
    | none => .bad)
  | none => .bad
/-! len(o), repr(o) -/
def ownC1 (ck : D → Bool) (tab : List (Str × SemL)) : SemL := fun ds S => match ds with
  | [d] => (own1 tab d S).bind (fun r S' => if ck r = true then .ok r S' else .bad)
  | _ => .bad
/-! isinstance(x, C) of own classes -/
structure InsT (K : PySem.W.Frag) (C : Addr) : Prop where
  cl : Cls K C
  ha : PySem.W.findIn K (.ref C) "__class__" = some (some (.builtin "object.__class__"))
  ob : PySem.W.mroIn K C (.type "object") = some true
theorem cls_get (K : PySem.W.Frag) : PySem.W.specialIn K (.builtin "object.__class__") "__get__" = some (some (.builtin "getset_descriptor.__get__")) := by kernel_rfl
theorem cls_takes (K : PySem.W.Frag) : PySem.W.takesIn K (.builtin "object.__class__") = some true := by kernel_rfl
theorem InsT.ty {K : PySem.W.Frag} {C a dx : Addr} {H : Hp} {fs : List (Str × V)} (t : InsT K C) (e : H a = some (.ins C dx fs)) : TyX K H (.ref a) (.ref C) := .base (.ins e t.cl t.ha (cls_get K) (cls_takes K) t.ob)
def isiO (tab : List (Str × List Str × List Str)) : SemL := fun ds S => match ds with
  | [d, .cls D] => (match tab.lookup D with
    | some (yes, no) => (match fldsOf S d with
      | some (c, _, _) => if c ∈ yes then .ok (.bl true) S else if c ∈ no then .ok (.bl false) S else .bad
      | none => if (kdOf S d).isSome = true then .ok (.bl false) S else .bad)
    | none => .bad)
  | _ => .bad
end
end Z
/-! ZY2: defs with defaults; calls with keywords. -/
namespace Z
open PySem PySem.Spec L2 PyProof.Rows
theorem fund_mk {K : PySem.W.Frag} {x qual : Str} {st : Stmt} {f : Addr} {oc : Value} {od an : Option Addr} {osl : Array (Option Value)} {dV kV doc pm cdv ct : Value} {dvs : List V} {kws : List (Str × V)} (l : K.lookup f = some ⟨oc, od, .func (PySem.W.fnOf x qual (defArgs st) (defBody st) (defScope st) dV kV doc pm an cdv ct), osl⟩)
    (c : PySem.W.codeIn K cdv qual = true) (k : PySem.W.keepIn K (.ref f) = true) (hd : DflV K dV dvs) (hk : KwdV K kV kws) : FunD K x qual (defArgs st) (defBody st) (defScope st) dvs kws f (PySem.W.fnOf x qual (defArgs st) (defBody st) (defScope st) dV kV doc pm an cdv ct) := ⟨⟨oc, od, dV, kV, doc, pm, an, cdv, ct, osl, rfl, l, c, hd, hk⟩, k⟩
theorem kwd_nil {K : PySem.W.Frag} {u : Value} : KwdV K u [] := .inl rfl
theorem dfl_nil {K : PySem.W.Frag} : DflV K .none [] := .inl ⟨rfl, rfl⟩
section
variable {P : Program} {w : World} {K : PySem.W.Frag} {mg : Str → Option Value} {base : Heap}
theorem spOf_body {N ps : List Str} {qual : Str} {scope : Scope} {f : Addr} {A : Around} {outer : List Env} {s : Shared} {k : Nat} {st : List Stmt} {body : SX} {cdv : Value}
    (hb : ∀ (H : Hp) (E : XK), ESs (cxOf (L2.CX P w) P w K mg base N qual scope f cdv A outer s H E) (fun c d _ H' => E c d H') st body) {H : Hp} {vs : List V} {Q : VK} {E : XK} (h : spOf K mg ps.length (defS N.length body) vs H Q E) :
    ∃ t, PSs (cxOf (L2.CX P w) P w K mg base N qual scope f cdv A outer s H E) st t ∧ t { nx := fun _ H' => Q .non H', rt := Q } (L2.start N vs) H := by
  obtain ⟨ρ, S, ds, hl, w0, r, p⟩ := h
  refine ⟨_, hb H E, ρ, S, _, w0, rst_start r, ?_⟩
  have p := fin_imp w0 p
  cases q : body (ds.map some ++ List.replicate (N.length - ds.length) none) S with
  | nx sl S' => rw [q] at p; exact fun σ' ρ' H' x w1 r1 => p .non ρ' H' x w1 (by rw [Rep])
  | rt d S' => rw [q] at p; exact p
  | ex e sl S' => rw [q] at p; exact fun C dd σ' ρ' H' x w1 _ r1 => p C dd ρ' H' x w1 r1
  | bk sl S' => rw [q] at p; exact p.elim
  | ct sl S' => rw [q] at p; exact p.elim
  | bad => rw [q] at p; exact p.elim
theorem spOf_bodyH {N ps : List Str} {qual : Str} {scope : Scope} {f : Addr} {A : Around} {outer : List Env} {s : Shared} {k : Nat} {st : List Stmt} {body : SX} {cdv : Value}
    (hb : ∀ (H : Hp) (E : XK), ESs (cxOf (L2.CX P w) P w K mg base N qual scope f cdv A outer s H E) (fun c d _ H' => E c d H') st body) {H : Hp} {vs : List V} {Q : VK} {E : XK} (h : spOf K mg ps.length (defH N.length body) vs H Q E) :
    ∃ t, PSs (cxOf (L2.CX P w) P w K mg base N qual scope f cdv A outer s H E) st t ∧ t { nx := fun _ H' => Q .non H', rt := Q } (L2.start N vs) H := by
  obtain ⟨ρ, S, ds, hl, w0, r, p⟩ := h
  refine ⟨_, hb H E, ρ, S, _, w0, rst_start r, ?_⟩
  have p : PostE K mg E ρ H Q (body (ds.map some ++ List.replicate (N.length - ds.length) none) S).out := p
  cases q : body (ds.map some ++ List.replicate (N.length - ds.length) none) S with
  | nx sl S' => rw [q] at p; exact fun σ' ρ' H' x w1 r1 => p .non ρ' H' x w1 (by rw [Rep])
  | rt d S' => rw [q] at p; exact p
  | ex e sl S' => rw [q] at p; exact fun C dd σ' ρ' H' x w1 _ r1 => p C dd ρ' H' x w1 r1
  | bk sl S' => rw [q] at p; exact p.elim
  | ct sl S' => rw [q] at p; exact p.elim
  | bad => rw [q] at p; exact p.elim
theorem spOf_len {n : Nat} {g : SemL} (vs : List V) (H : Hp) (Q : VK) (E : XK) (h : spOf K mg n g vs H Q E) : vs.length = n := by
  obtain ⟨ρ, S, ds, hl, _, r, _⟩ := h
  rw [← r.len, hl]
/-- a def whose code object is told -/
theorem fn_okD {x qual : Str} {params : Arguments} {stb : List Stmt} {scope : Scope} {dvs : List V} {kws : List (Str × V)} {f : Addr} {fd : FuncData} {N ps : List Str} {k : Nat} {body : SX} (F : FunD K x qual params stb scope dvs kws f fd) (Sc : FnScope N ps scope)
    (hb : ∀ (A : Around) (outer : List Env) (s : Shared) (H : Hp) (E : XK), Room k (A.deeper (envOfC qual scope s.heap.objs.size f fd.code)) →
      ESs (cxOf (L2.CX P w) P w K mg base N qual scope f fd.code A outer s H E) (fun c d _ H' => E c d H') stb body) :
    FnOk P w K mg base (L2.CX P w) (k + 1) f fd ps (spOf K mg ps.length (defS N.length body)) := by
  obtain ⟨oc, od, dV, kV, doc, pm, an, cdv, ct, osl, rfl, lk, hcd, _, _⟩ := F.ex
  exact fn_of lk hcd Sc spOf_len fun A outer s H vs Q E hr h => spOf_body (ps := ps) (k := k) (fun H E => hb A outer s H E hr) h
theorem fn_okHD {x qual : Str} {params : Arguments} {stb : List Stmt} {scope : Scope} {dvs : List V} {kws : List (Str × V)} {f : Addr} {fd : FuncData} {N ps : List Str} {k : Nat} {body : SX} (F : FunD K x qual params stb scope dvs kws f fd) (Sc : FnScope N ps scope)
    (hb : ∀ (A : Around) (outer : List Env) (s : Shared) (H : Hp) (E : XK), Room k (A.deeper (envOfC qual scope s.heap.objs.size f fd.code)) →
      ESs (cxOf (L2.CX P w) P w K mg base N qual scope f fd.code A outer s H E) (fun c d _ H' => E c d H') stb body) :
    FnOk P w K mg base (L2.CX P w) (k + 1) f fd ps (spOf K mg ps.length (defH N.length body)) := by
  obtain ⟨oc, od, dV, kV, doc, pm, an, cdv, ct, osl, rfl, lk, hcd, _, _⟩ := F.ex
  exact fn_of lk hcd Sc spOf_len fun A outer s H vs Q E hr h => spOf_bodyH (ps := ps) (k := k) (fun H E => hb A outer s H E hr) h
/-- all arguments, or all but those with defaults -/
def defsS (n : Nat) (dds : List D) (g : SemL) : SemL := fun ds S => if ds.length = n then g ds S else if ds.length + dds.length = n then g (ds ++ dds) S else .bad
/-! ### by keywords -/
def pickL {α : Type} (ix : List Nat) (xs : List α) : List α := ix.filterMap fun i => xs[i]?
theorem pickL_rep {ρ : List Addr} {H : Hp} {ds : List D} {vs : List V} (r : RepL K mg ρ H ds vs) : ∀ ix : List Nat, RepL K mg ρ H (pickL ix ds) (pickL ix vs)
  | [] => RepL.nil
  | i :: ix => by
    have ih := pickL_rep r ix
    unfold pickL at ih ⊢
    rw [List.filterMap_cons, List.filterMap_cons]
    cases e : ds[i]? with
    | some d =>
      obtain ⟨v, e2, q⟩ := r.get e
      rw [e2]
      exact RepL.cons q ih
    | none =>
      have e2 : vs[i]? = none := by
        rw [List.getElem?_eq_none_iff] at e ⊢
        rw [← r.len]; exact e
      rw [e2]
      exact ih
theorem pickL_vals {vs : List V} {us : List Value} (r : Vals vs us) : ∀ ix : List Nat, Vals (pickL ix vs) (pickL ix us)
  | [] => .nil
  | i :: ix => by
    have ih := pickL_vals r ix
    unfold pickL at ih ⊢
    rw [List.filterMap_cons, List.filterMap_cons]
    cases e : vs[i]? with
    | some d =>
      obtain ⟨v, e2, q⟩ := r.get e
      rw [e2]
      exact .cons q ih
    | none =>
      have e2 : us[i]? = none := by
        rw [List.getElem?_eq_none_iff] at e ⊢
        rw [← r.length]; exact e
      rw [e2]
      exact ih
end
/-! ### calls with keywords -/
section
variable {X : Cx} {W : WX}
def EK (X : Cx) (W : WX) (kws : List Keyword) (f : AX) : Prop := PK X kws (trA X.K X.mg W f)
theorem PK.imp {kws : List Keyword} {t t' : TA} (h : PK X kws t) (k : ∀ σ H Q, t' σ H Q → t σ H Q) : PK X kws t' := ⟨fun pos pins s σ H Q I q => h.run pos pins s σ H Q I (k σ H Q q)⟩
theorem k_nil : EK X W [] aNil := PK.imp pk_nil fun σ H Q ⟨ρ, S, sl, w, rs, p⟩ => p [] ρ H Ext.refl w RepL.nil
theorem k_cons {nm : Option Str} {e : Expr} {kpos : Pos} {kws : List Keyword} {f : EX} {g : AX} (ha : E X W e f) (hr : EK X W kws g) : EK X W (⟨nm, e, kpos⟩ :: kws) (aCons f g) :=
  PK.imp (pk_cons ha hr) fun σ H Q h => args_imp h
variable {k n : Nat} {f C : Addr} {g : SemL} {x m : Str} {p pos apos : Pos} {e o : Expr} {es : List Expr} {fa fk : AX} {fo fe : EX} {ks : List Str} {kws : List Keyword}
/-- x(e, .., k = v, ..) -/
def eCallK (n m : Nat) (g : SemL) (fa fk : AX) : EX := fun sl S => (fa sl S).bind fun ds S1 => (fk sl S1).bind fun es S2 => if ds.length = n ∧ es.length = m then g (ds ++ es) S2 else .bad
/-! methods -/
/-- o.m(e, .., k = v, ..) -/
def eMethK (m : Str) (n mm : Nat) (tab : List (Str × SemL)) (fo : EX) (fa fk : AX) : EX := fun sl S => (fo sl S).bind fun d S1 => match fldsOf S1 d with
  | some (c, ns, _) => if m ∈ ns then .bad else (match tabOf tab c with
    | some g => (fa sl S1).bind fun ds S2 => (fk sl S2).bind fun es S3 => if ds.length = n ∧ es.length = mm then g (d :: (ds ++ es)) S3 else .bad
    | none => .bad)
  | none => .bad
end
end Z
/-! ZY3: making by keywords, f-strings, a, b, c = .., unpacking lists. -/
namespace Z
open PySem PySem.Spec L2 PyProof.Rows
section
variable {X : Cx} {W : WX} {k n : Nat} {f C : Addr} {g : SemL} {x m : Str} {p pos apos : Pos} {e o : Expr} {es : List Expr} {fa fk : AX} {fo fe : EX} {ks : List Str} {kws : List Keyword}
/-! ### f-strings -/
def semFmt : Sem1 := fun d S => match d with
  | .str y => if y.length ≤ 1000000 then .ok (.str y) S else .bad
  | .int i => if i.natAbs.log2 < 1920 then .ok (.str (toString i)) S else .bad
  | _ => .bad
def joinGo : List EX → Str → Sl → Store → Out D
  | [], acc, _, S => .ok (.str acc) S
  | f :: fs, acc, sl, S => (f sl S).bind fun d S1 => match d with
    | .str y => if (acc ++ y).length ≤ 1000000 then joinGo fs (acc ++ y) sl S1 else .bad
    | _ => .bad
def eJoin (fs : List EX) : EX := fun sl S => joinGo fs Str.empty sl S
/-! ### a, b, c = x, y, z -/
def sPar3 (i j l : Nat) (f : AX) : SX := fun sl S => (f sl S).toS sl fun ds S' => match ds with
  | [d, e, g] => .nx (((sl.set i (some d)).set j (some e)).set l (some g)) S'
  | _ => .bad
/-! ### a, b, .. = a list -/
def gLstX (gs : GXs) : GX := fun d sl S => match asL S d with
  | some ds => gs ds sl S
  | none => .bad
end
end Z
/-! ZY4: what printed derivations with exceptions and lambdas use. -/
namespace ZX
open PySem PySem.W PySem.Calls PyProof.Rows PySem.Spec
open L2 (V Vals RelV RelO)
theorem vofP_same : ∀ {ps : List Str} {vs : List V}, ps.Nodup → vs.length = ps.length → ps.map (fun f => (f, vofP ps vs f)) = ps.zip vs := by
  have core : ∀ (ps : List Str) (vs : List V), ps.Nodup → vs.length = ps.length → ∀ f v, (f, v) ∈ ps.zip vs → vofP ps vs f = v := by
    intro ps
    induction ps with
    | nil => intro vs _ _ f v h; simp at h
    | cons p ps ih =>
      intro vs hn hl f v h
      cases vs with
      | nil => simp at hl
      | cons u vs =>
        rw [List.zip_cons_cons] at h
        rcases List.mem_cons.mp h with e | h
        · cases e
          simp [vofP, List.lookup]
        · have hf : f ∈ ps := (List.of_mem_zip h).1
          have ne : f ≠ p := fun e => (List.nodup_cons.mp hn).1 (e ▸ hf)
          have r := ih vs (List.nodup_cons.mp hn).2 (by simpa using hl) f v h
          unfold vofP at r ⊢
          rw [List.zip_cons_cons, List.lookup_cons, beq_eq_false_iff_ne.mpr ne]
          exact r
  intro ps vs hn hl
  have : ∀ (l : List Str) (ws : List V), l.length = ws.length → (∀ f v, (f, v) ∈ l.zip ws → vofP ps vs f = v) → l.map (fun f => (f, vofP ps vs f)) = l.zip ws := by
    intro l
    induction l with
    | nil => intro ws _ _; simp
    | cons a l ih =>
      intro ws h1 h2
      cases ws with
      | nil => simp at h1
      | cons b ws =>
        rw [List.map_cons, List.zip_cons_cons, h2 a b (by simp), ih ws (by simpa using h1) fun f v h => h2 f v (by simp [h])]
  exact this ps vs hl.symm (core ps vs hn hl)
theorem foldl_own {f : Str → V} : ∀ (l : List Str) (fs : List (Str × V)), (l.map fun p => (p, p)).foldl (fun fs fp => (fp.1, f fp.2) :: fs) fs = (l.map fun p => (p, f p)).reverse ++ fs
  | [], fs => rfl
  | a :: l, fs => by rw [List.map_cons, List.foldl_cons, foldl_own l, List.map_cons, List.reverse_cons, List.append_assoc]; rfl
theorem InitOk.cast {prog : Program} {w : World} {base : Heap} {k : Nat} {f C : Addr} {G G' : List V → Option (List (Str × V))} (h : InitOk prog w base k f C G) (e : ∀ vs, G' vs = G vs) : InitOk prog w base k f C G' := by
  have : G' = G := funext e
  rw [this]; exact h
theorem InitOk.mono {prog : Program} {w : World} {base : Heap} {j k : Nat} {f C : Addr} {G : List V → Option (List (Str × V))} (h : InitOk prog w base j f C G) (e : j ≤ k) : InitOk prog w base k f C G :=
  fun A s x t us vs fs R hd => h A s x t us vs fs R (by omega)
/-- what __init__(self, tag): self.tag = tag keeps -/
def G1 : List V → Option (List (Str × V)) := fun vs => if vs.length = 1 then some [("tag", vofP ["tag"] vs "tag")] else none
theorem own_eq {tag : Str} {flds : List Str} (hn : flds.Nodup) (vs : List V) :
    (if vs.length = flds.length then some (Z.excFs tag flds vs) else none) = (if vs.length = flds.length then (G1 [.str tag]).map (fun fs => (flds.map fun p => (p, p)).foldl (fun fs fp => (fp.1, vofP flds vs fp.2) :: fs) fs) else none) := by
  by_cases h : vs.length = flds.length
  · rw [if_pos h, if_pos h]
    unfold G1 Z.excFs
    have e1 : (if [V.str tag].length = 1 then some [(("tag" : Str), vofP ["tag"] [V.str tag] "tag")] else none) = some [(("tag" : Str), V.str tag)] := by simp [vofP, List.lookup]
    rw [e1, Option.map_some, foldl_own, vofP_same hn h]
  · rw [if_neg h, if_neg h]
end ZX
namespace Z
open PySem PySem.Spec L2 PyProof.Rows
/-! ### defs that make lambdas -/
/-! ### the law's start with tables -/
/-! ### lambdas' texts -/
end Z
/-! ZY5: tables for printed derivations. -/
namespace Z
open PySem PySem.Spec L2 PyProof.Rows
section
variable {X : Cx} {W : WX}
def eBad : EX := fun _ _ => .bad
theorem xat_nil {f : Str} : XatOk X f [] := fun c h => by cases h
theorem xat_cons {f c : Str} {C : Addr} {cs : List Str} (hm : X.mg c = some (.ref C)) (h : XfC X.K C) (hf : PySem.W.findIn X.K (.ref C) f = some none) (r : XatOk X f cs) : XatOk X f (c :: cs) := fun c' h' C' hm' => by
  rcases List.mem_cons.mp h' with e | e
  · subst e
    rw [hm] at hm'
    cases hm'
    exact ⟨h, hf⟩
  · exact r c' e C' hm'
/-! own classes below others -/
/-! == of own classes: which classes may stand at the right -/
end
/-! ### the lambdas of a text -/
section
variable {P : Program} {w : World} {K : PySem.W.Frag} {mg : Str → Option Value} {base : Heap}
theorem LamOk.mono {j k : Nat} {T : LamText} {l : SemL} (h : LamOk P w K mg base j T l) (e : j ≤ k) : LamOk P w K mg base k T l := fun A outer s H f c' clo pm doc dV ctv ρ S caps vs Q E hr => h A outer s H f c' clo pm doc dV ctv ρ S caps vs Q E (hr.mono e)
end
end Z
/-! ZY6: bool(x) of own classes. -/
namespace PySem.W
open PySem PySem.Calls PyProof.Rows
end PySem.W
namespace Z
open PySem PySem.Spec L2
end Z
/-! ZT: a set of different texts, made of a tuple, and sorted. -/
namespace Z
open PySem PySem.Spec L2 PyProof.Rows
/-- what a set of the texts l holds, and that it can be walked -/
structure TxR (P : Program) (w : World) (D : PySem.Froz.SD) (l : List Str) : Prop where
  ok : PySem.Froz.TxOk P w D l
  ris : L2.Ris D.2.2.place.toList
  led : w.params.followText "set-order" = true ∨ D.2.2.led = true
section
variable {P : Program} {w : World} {A : Around} {E : Value → Shared → Prop} {s : Shared}
theorem TxR.add {D : PySem.Froz.SD} {l : List Str} {k : Str} (u : Tok) (F : TxR P w D l) : TxR P w (PySem.Froz.addTx (hashStr w k) (.str k u) D) (k :: l) := by
  obtain ⟨es, ep, t⟩ := D
  have hr := L2.layNew_ris t es (hashStr w k) (.str k u) F.ris
  have hl := L2.layNew_led t es (hashStr w k) (.str k u)
  have led : ∀ t' : SetTable, t'.led = t.led → w.params.followText "set-order" = true ∨ t'.led = true := fun t' e => F.led.imp id fun z => by rw [e]; exact z
  have both : ∀ (ep' : Nat) (es1 : Array (Int × Value)) (t2 : SetTable) (wd : Bool), L2.Ris t2.place.toList → t2.led = t.led →
      L2.Ris (PySem.Froz.tailTx ep' es1 t2 wd).2.2.place.toList ∧ (PySem.Froz.tailTx ep' es1 t2 wd).2.2.led = t.led := fun ep' es1 t2 wd h1 h2 => by
    unfold PySem.Froz.tailTx
    split
    · exact ⟨L2.relayAll_ris _ _ _, (L2.relayAll_led _ _ _).trans h2⟩
    · exact ⟨h1, h2⟩
  have key : L2.Ris (PySem.Froz.addTx (hashStr w k) (.str k u) (es, ep, t)).2.2.place.toList ∧ (PySem.Froz.addTx (hashStr w k) (.str k u) (es, ep, t)).2.2.led = t.led := by
    unfold PySem.Froz.addTx
    refine both _ _ _ _ ?_ ?_
    · dsimp only
      split <;> exact hr
    · dsimp only
      split <;> exact hl
  exact ⟨PySem.Froz.add_ok u F.ok, key.1, led _ key.2⟩
end
end Z
/-! ZT2: set(t) of a tuple of different texts. -/
namespace Z
open PySem PySem.Spec L2 PyProof.Rows
end Z
/-! ZT3: sorted(set(t)) as one expression. -/
namespace Z
open PySem PySem.Spec L2 PyProof.Rows
/-- the texts of data -/
def strsD : List D → Option (List Str)
  | [] => some []
  | .str x :: r => (strsD r).map (x :: ·)
  | _ :: _ => none
@[simp] theorem strsD_map (xs : List Str) : strsD (xs.map D.str) = some xs := by
  induction xs with
  | nil => rfl
  | cons x xs ih => rw [List.map_cons, strsD, ih]; rfl
end Z
/-! ZT4: min(xs), xs a list of alike data. -/
namespace Z
open PySem PySem.Spec L2 PyProof.Rows
end Z
/-! ZT5: x < y of alike data (tuples). -/
namespace Z
open PySem PySem.Spec L2 PyProof.Rows
end Z
/-! ZT6: list(x) of a text. -/
namespace Z
open PySem PySem.Spec L2 PyProof.Rows
end Z
/-! ZP: the plain calculus of the further combinators. -/
namespace Z
open PySem PySem.Spec L2
theorem char_inj {a b : Char} (h : a.toNat = b.toNat) : a = b := Char.ext (UInt32.toNat_inj.mp h)
@[simp] theorem ofString_inj {a b : String} : Str.ofString a = Str.ofString b ↔ a = b := by
  constructor
  · intro h
    rw [Str.ofString_eq_toList, Str.ofString_eq_toList] at h
    have h2 : a.toList.map Char.toNat = b.toList.map Char.toNat := by
      have := congrArg (fun s : Str => s.cps.toList) h
      simpa using this
    have h3 : a.toList = b.toList := List.map_inj_right (fun x y h => char_inj h) |>.mp h2
    exact String.toList_inj.mp h3
  · rintro rfl; rfl
theorem okS_lit (a : String) : okS (Str.ofString a).cps.toList := by
  rw [Str.ofString_eq_toList]
  intro c hc
  simp at hc
  obtain ⟨d, _, rfl⟩ := hc
  have := d.valid
  have h2 : d.toNat = d.val.toNat := rfl
  unfold UInt32.isValidChar Nat.isValidChar at this
  omega
theorem lit_tx (a : String) : Str.ofString a = tx (Str.ofString a).cps.toList := (tx_eta _).symm
@[simp] theorem plain_lit {k : Nat} {a : String} : Z.plain k (.str (Str.ofString a)) = True := by
  have := okS_lit a
  cases k <;> simp [Z.plain, this]
@[simp] theorem eqD_lit {neg : Bool} {a b : String} {S : Store} : eqD neg (.str (Str.ofString a)) (.str (Str.ofString b)) S = .ok (.bl (if neg = true then !decide (a = b) else decide (a = b))) S := by
  have e : (tx (Str.ofString a).cps.toList = tx (Str.ofString b).cps.toList) = (a = b) := by rw [← lit_tx, ← lit_tx]; simp
  have e2 : ((Str.ofString a).cps.toList = (Str.ofString b).cps.toList) = (a = b) := by rw [← e]; simp
  cases neg
  · rw [lit_tx a, lit_tx b, eqD_str (okS_lit a) (okS_lit b)]; simp [e2, ← Array.toList_inj]
  · rw [lit_tx a, lit_tx b, neD_str (okS_lit a) (okS_lit b)]; simp [e2, ← Array.toList_inj]
section
variable {sl : Sl} {S : Store} {P : D → Store → Prop} {PB : Bool → Store → Prop} {X : D → Store → Prop} {Q : Q0} {f1 f2 : EX} {fa fk : AX} {fb fs : SX}
@[simp] theorem orS2_int {g : Sem2} {i j : Int} {d : D} {S' : Store} {f : Sem2} (h : f (.int i) (.int j) S = .ok d S') : orS2 f g (.int i) (.int j) S = .ok d S' := orS2_l h
@[simp] theorem w_eCallK {n m : Nat} {g : SemL} : We (eCallK n m g fa fk sl S) P X = We (fa sl S) (fun ds S1 => We (fk sl S1) (fun es S2 => (ds.length = n ∧ es.length = m) ∧ We (g (ds ++ es) S2) P X) X) X := by
  unfold eCallK
  rw [we_bind]; congr 1; funext ds S1
  rw [we_bind]; congr 1; funext es S2
  by_cases h : ds.length = n ∧ es.length = m
  · rw [if_pos h]; simp [h]
  · rw [if_neg h]; simp only [h, false_and, we_bad]
@[simp] theorem w_eMethK {m : Str} {n mm : Nat} {tab : List (Str × SemL)} : We (eMethK m n mm tab f1 fa fk sl S) P X = We (f1 sl S) (fun d S1 => isO (fldsOf S1 d) fun p => m ∉ p.2.1 ∧ isO (tabOf tab p.1) fun g => We (fa sl S1) (fun ds S2 => We (fk sl S2) (fun es S3 => (ds.length = n ∧ es.length = mm) ∧ We (g (d :: (ds ++ es)) S3) P X) X) X) X := by
  unfold eMethK
  rw [we_bind]; congr 1; funext d S1
  cases e : fldsOf S1 d with
  | none => simp
  | some p =>
    obtain ⟨c, ns, vs⟩ := p
    simp only [isO_some]
    by_cases h : m ∈ ns
    · simp [h]
    · rw [if_neg h]
      simp only [h, not_false_iff, true_and]
      cases e2 : tabOf tab c with
      | none => simp
      | some g =>
        simp only [isO_some]
        rw [we_bind]; congr 1; funext ds S2
        rw [we_bind]; congr 1; funext es S3
        by_cases h2 : ds.length = n ∧ es.length = mm
        · rw [if_pos h2]; simp [h2]
        · rw [if_neg h2]; simp only [h2, false_and, we_bad]
@[simp] theorem w_bTru {sem : SemB} : We (bTru sem f1 sl S) PB X = We (f1 sl S) (fun d S1 => We (sem d S1) PB X) X := by unfold bTru; rw [we_bind]
@[simp] theorem tru_bl {t : SemB} {b : Bool} : orSB truPl t (.bl b) S = .ok b S := (rfl)
@[simp] theorem tru_ins {t : SemB} {c : Str} {ns : List Str} {vs : List D} : orSB truPl t (.ins c ns vs) S = t (.ins c ns vs) S := (rfl)
@[simp] theorem own1_ins {tab : List (Str × SemL)} {c : Str} {ns : List Str} {vs : List D} : own1 tab (.ins c ns vs) S = match tabOf tab c with
    | some g => g [.ins c ns vs] S
    | none => .bad := (rfl)
@[simp] theorem tabOf_cons {c d : Str} {g : SemL} {tab : List (Str × SemL)} : tabOf ((c, g) :: tab) d = if d = c then some g else tabOf tab d := by
  unfold tabOf
  rw [List.lookup_cons]
  by_cases h : d = c
  · subst h; simp
  · rw [if_neg h, beq_eq_false_iff_ne.mpr h]
@[simp] theorem tabOf_nil {d : Str} : tabOf [] d = none := (rfl)
@[simp] theorem w_ownTru {tab : List (Str × SemL)} {d : D} : We (ownTru tab d S) PB X = We (own1 tab d S) (fun r S' => isB r fun b => PB b S') X := by
  unfold ownTru
  rw [we_bind]; congr 1; funext r S'
  cases r <;> simp [asB, isB]
/-! operators of own classes -/
@[simp] theorem w_ownOp_ins {tab : List (Str × SemL)} {c : Str} {ns : List Str} {vs : List D} {e : D} : We (ownOp tab (.ins c ns vs) e S) P X = isO (tabOf tab c) fun g => okRt S c e = true ∧ We (g [.ins c ns vs, e] S) P X := by
  unfold ownOp
  simp only [fldsOf_ins]
  cases h : tabOf tab c with
  | none => simp
  | some g =>
    simp only [isO_some]
    by_cases h2 : okRt S c e = true
    · rw [if_pos h2]; simp [h2]
    · rw [if_neg h2]; simp [h2]
@[simp] theorem okRt_ins {c c' : Str} {ns : List Str} {vs : List D} : okRt S c (.ins c' ns vs) = decide (c' = c) := (rfl)
@[simp] theorem okRt_int {c : Str} {i : Int} : okRt S c (.int i) = true := (rfl)
@[simp] theorem okRt_str {c : Str} {i : Str} : okRt S c (.str i) = true := (rfl)
@[simp] theorem okRt_non {c : Str} : okRt S c .non = true := (rfl)
@[simp] theorem okRt_bl {c : Str} {b : Bool} : okRt S c (.bl b) = true := (rfl)
@[simp] theorem okRt_tup {c : Str} {b : List D} : okRt S c (.tup b) = true := (rfl)
@[simp] theorem okRt_lst {c : Str} {b : List D} : okRt S c (.lst b) = true := (rfl)
@[simp] theorem addX_ins {c : Str} {ns : List Str} {vs : List D} {e : D} {g : Sem2} : orS2 addX g (.ins c ns vs) e S = g (.ins c ns vs) e S := orS2_r (by cases e <;> rfl)
@[simp] theorem subI_ins {c : Str} {ns : List Str} {vs : List D} {e : D} {g : Sem2} : orS2 subI g (.ins c ns vs) e S = g (.ins c ns vs) e S := orS2_r (by cases e <;> rfl)
@[simp] theorem mulX_ins {c : Str} {ns : List Str} {vs : List D} {e : D} {g : Sem2} : orS2 mulX g (.ins c ns vs) e S = g (.ins c ns vs) e S := orS2_r (by cases e <;> rfl)
@[simp] theorem negI_ins {c : Str} {ns : List Str} {vs : List D} {g : Sem1} : orS1 negI g (.ins c ns vs) S = g (.ins c ns vs) S := (rfl)
theorem own_none {tab : List (Str × SemL)} {d e : D} (h : fldsOf S d = none) : ownOp tab d e S = .bad := by unfold ownOp; rw [h]
theorem orS2_bad {f g : Sem2} {d e : D} (h : g d e S = .bad) : orS2 f g d e S = f d e S := by
  unfold orS2
  rw [h]
  cases f d e S <;> rfl
@[simp] theorem ownOp_int {f : Sem2} {tab : List (Str × SemL)} {i : Int} {e : D} : orS2 f (ownOp tab) (.int i) e S = f (.int i) e S := orS2_bad (own_none rfl)
@[simp] theorem ownOp_str {f : Sem2} {tab : List (Str × SemL)} {i : Str} {e : D} : orS2 f (ownOp tab) (.str i) e S = f (.str i) e S := orS2_bad (own_none rfl)
@[simp] theorem ownOp_lst {f : Sem2} {tab : List (Str × SemL)} {i : List D} {e : D} : orS2 f (ownOp tab) (.lst i) e S = f (.lst i) e S := orS2_bad (own_none rfl)
@[simp] theorem ownOp_tup {f : Sem2} {tab : List (Str × SemL)} {i : List D} {e : D} : orS2 f (ownOp tab) (.tup i) e S = f (.tup i) e S := orS2_bad (own_none rfl)
/-! == -/
@[simp] theorem w_ownEq_ins {neg : Bool} {oth : List Str} {tab : List (Str × SemL)} {c : Str} {ns : List Str} {vs : List D} {e : D} : We (ownEq neg oth tab (.ins c ns vs) e S) P X = isO (tabOf tab c) fun g => okRtE oth S e = true ∧ We (g [.ins c ns vs, e] S) (fun r S' => isB r fun b => P (.bl (if neg = true then !b else b)) S') X := by
  unfold ownEq
  simp only [fldsOf_ins]
  cases h : tabOf tab c with
  | none => simp
  | some g =>
    simp only [isO_some]
    by_cases h2 : okRtE oth S e = true
    · rw [if_pos h2, we_bind]
      simp only [h2, true_and]
      congr 1; funext r S'
      cases r <;> simp [isB]
    · rw [if_neg h2]; simp [h2]
theorem ownEq_none {neg : Bool} {oth : List Str} {tab : List (Str × SemL)} {d e : D} (h : fldsOf S d = none) : ownEq neg oth tab d e S = .bad := by unfold ownEq; rw [h]
@[simp] theorem ownEq_int {f : Sem2} {neg : Bool} {oth : List Str} {tab : List (Str × SemL)} {i : Int} {e : D} : orS2 f (ownEq neg oth tab) (.int i) e S = f (.int i) e S := orS2_bad (ownEq_none rfl)
@[simp] theorem ownEq_str {f : Sem2} {neg : Bool} {oth : List Str} {tab : List (Str × SemL)} {i : Str} {e : D} : orS2 f (ownEq neg oth tab) (.str i) e S = f (.str i) e S := orS2_bad (ownEq_none rfl)
@[simp] theorem ownEq_tup {f : Sem2} {neg : Bool} {oth : List Str} {tab : List (Str × SemL)} {i : List D} {e : D} : orS2 f (ownEq neg oth tab) (.tup i) e S = f (.tup i) e S := orS2_bad (ownEq_none rfl)
@[simp] theorem ownEq_lst {f : Sem2} {neg : Bool} {oth : List Str} {tab : List (Str × SemL)} {i : List D} {e : D} : orS2 f (ownEq neg oth tab) (.lst i) e S = f (.lst i) e S := orS2_bad (ownEq_none rfl)
@[simp] theorem ownEq_bl {f : Sem2} {neg : Bool} {oth : List Str} {tab : List (Str × SemL)} {i : Bool} {e : D} : orS2 f (ownEq neg oth tab) (.bl i) e S = f (.bl i) e S := orS2_bad (ownEq_none rfl)
@[simp] theorem ownEq_non {f : Sem2} {neg : Bool} {oth : List Str} {tab : List (Str × SemL)} {e : D} : orS2 f (ownEq neg oth tab) .non e S = f .non e S := orS2_bad (ownEq_none rfl)
@[simp] theorem eqD_ins {neg : Bool} {c : Str} {ns : List Str} {vs : List D} {e : D} {g : Sem2} : orS2 (eqD neg) g (.ins c ns vs) e S = g (.ins c ns vs) e S := orS2_r (by unfold eqD; simp [toP, toP0])
@[simp] theorem okRtE_ins {oth : List Str} {c' : Str} {ns : List Str} {vs : List D} : okRtE oth S (.ins c' ns vs) = decide (c' ∈ oth) := (rfl)
@[simp] theorem okRtE_int {oth : List Str} {i : Int} : okRtE oth S (.int i) = true := (rfl)
@[simp] theorem okRtE_str {oth : List Str} {i : Str} : okRtE oth S (.str i) = true := (rfl)
@[simp] theorem okRtE_non {oth : List Str} : okRtE oth S .non = true := (rfl)
@[simp] theorem okRtE_bl {oth : List Str} {i : Bool} : okRtE oth S (.bl i) = true := (rfl)
@[simp] theorem okRtE_tup {oth : List Str} {i : List D} : okRtE oth S (.tup i) = true := (rfl)
@[simp] theorem okRtE_lst {oth : List Str} {i : List D} : okRtE oth S (.lst i) = true := (rfl)
@[simp] theorem w_ownC1 {ck : D → Bool} {tab : List (Str × SemL)} {d : D} : We (ownC1 ck tab [d] S) P X = We (own1 tab d S) (fun r S' => ck r = true ∧ P r S') X := by
  unfold ownC1
  rw [we_bind]; congr 1; funext r S'
  by_cases h : ck r = true
  · simp [h]
  · simp [h]
@[simp] theorem isiO_ins {tab : List (Str × List Str × List Str)} {c : Str} {ns : List Str} {vs : List D} {D' : Str} : isiO tab [.ins c ns vs, .cls D'] S = match tab.lookup D' with
    | some (yes, no) => if c ∈ yes then .ok (.bl true) S else if c ∈ no then .ok (.bl false) S else .bad
    | none => .bad := (rfl)
/-! f-strings, unpacking -/
@[simp] theorem fmt_str {l : List Nat} : We (semFmt (.str (tx l)) S) P X = (l.length ≤ 1000000 ∧ P (.str (tx l)) S) := by
  unfold semFmt
  simp only [tx_len]
  by_cases h : l.length ≤ 1000000
  · simp [h]
  · simp [h]
@[simp] theorem fmt_int {i : Int} : We (semFmt (.int i) S) P X = (i.natAbs.log2 < 1920 ∧ P (.str (toString i)) S) := by
  unfold semFmt
  by_cases h : i.natAbs.log2 < 1920
  · simp [h]
  · simp [h]
@[simp] theorem w_sPar3 {i j l : Nat} {f3 : EX} : Wo (sPar3 i j l (aCons f1 (aCons f2 (aCons f3 aNil))) sl S) Q = We (f1 sl S) (fun d S1 => We (f2 sl S1) (fun e S2 => We (f3 sl S2) (fun g S3 => Q.nx (((sl.set i (some d)).set j (some e)).set l (some g)) S3) (fun e S' => Q.ex e sl S')) (fun e S' => Q.ex e sl S')) (fun e S' => Q.ex e sl S') := by
  unfold sPar3
  rw [wo_toS]
  simp
@[simp] theorem w_gLst {gs : GXs} {ds : List D} : Wo (gLstX gs (.lst ds) sl S) Q = Wo (gs ds sl S) Q := by unfold gLstX; rfl
/-! exceptions -/
def isX (d : D) (k : Str → List Str → List D → Prop) : Prop := match d with
  | .exc c ns ds => k c ns ds
  | _ => False
@[simp] theorem isX_exc {c : Str} {ns : List Str} {ds : List D} {k : Str → List Str → List D → Prop} : isX (.exc c ns ds) k = k c ns ds := (rfl)
@[simp] theorem w_sRaise {f : EX} : Wo (sRaise f sl S) Q = We (f sl S) (fun d S' => isX d fun c ns ds => Q.ex (.ins c ns ds) sl S') (fun e S' => Q.ex e sl S') := by
  unfold sRaise
  cases o : f sl S with
  | ok d S1 => cases d <;> simp [isX]
  | ex e S1 => simp
  | bad => simp
@[simp] theorem w_excS {c tag : Str} {flds : List Str} {ds : List D} : We (excS c tag flds ds S) P X = (ds.length = flds.length ∧ P (.exc c (flds.reverse ++ [("tag" : Str)]) (ds.reverse ++ [D.str tag])) S) := by
  unfold excS
  by_cases h : ds.length = flds.length
  · simp [h]
  · simp [h]
@[simp] theorem suiteQ_rt {i : Nat} : (suiteQ i Q).rt = Q.rt := (rfl)
@[simp] theorem suiteQ_nx {i : Nat} : (suiteQ i Q).nx sl S = Q.nx (sl.set i none) S := (rfl)
@[simp] theorem suiteQ_bk {i : Nat} : (suiteQ i Q).bk sl S = Q.bk (sl.set i none) S := (rfl)
@[simp] theorem suiteQ_ct {i : Nat} : (suiteQ i Q).ct sl S = Q.ct (sl.set i none) S := (rfl)
@[simp] theorem suiteQ_ex {i : Nat} {e : D} : (suiteQ i Q).ex e sl S = False := (rfl)
@[simp] theorem w_sTry {tab : List (Str × Bool)} {i : Nat} : Wo (sTry tab i fb fs sl S) Q = Wo (fb sl S) { Q with ex := catchQ tab i fs Q } := by
  unfold sTry
  cases o : fb sl S with
  | nx sl1 S1 => simp
  | bk sl1 S1 => simp
  | ct sl1 S1 => simp
  | rt d S1 => simp
  | bad => simp
  | ex e sl1 S1 =>
    simp only [wo_ex]
    cases e with
    | ins c ns ds =>
      unfold catchQ
      dsimp only
      cases q : tab.lookup c with
      | none => simp
      | some b =>
        cases b with
        | false => simp
        | true =>
          dsimp only
          cases o2 : fs (sl1.set i (some (.exc c ns ds))) S1 <;> simp [suiteQ]
    | _ => simp [catchQ]
@[simp] theorem w_eXat {f : Str} {cs : List Str} : We (eXat f cs f1 sl S) P X = We (f1 sl S) (fun d S1 => isX d fun c ns vs => c ∈ cs ∧ isO (lookN f ns vs) fun v => P v S1) X := by
  unfold eXat
  rw [we_bind]; congr 1; funext d S1
  cases d with
  | exc c ns vs =>
    simp only [isX_exc]
    by_cases h : c ∈ cs
    · simp only [if_pos h, h, true_and]
      cases lookN f ns vs <;> simp
    · simp [h]
  | _ => simp [isX]
@[simp] theorem w_sAug {i : Nat} {op : Int → Int → Int} {fe : EX} {a : Int} (h : sl[i]? = some (some (.int a))) : Wo (sAug i op fe sl S) Q = We (fe sl S) (fun e S1 => ∃ b, e = .int b ∧ Q.nx (sl.set i (some (.int (op a b)))) S1) (fun e S' => Q.ex e sl S') := by
  unfold sAug
  rw [h]
  dsimp only
  rw [wo_toS]
  congr 1
  funext e S1
  cases e <;> simp
@[simp] theorem w_eBad : We (eBad sl S) P X = False := by unfold eBad; simp
/-! lambdas -/
@[simp] theorem w_callL {cn N : List Str} {κ : List (Str × Addr)} {g : SemL} : We (callL cn N κ g fa sl S) P X = We (fa sl S) (fun ds S1 => isO (convL cn N κ sl ds) fun ds' => We (g ds' S1) (fun d S2 => (noLc d = true ∧ noLcS S2 = true) ∧ P d S2) (fun _ _ => False)) X := by
  unfold callL
  rw [we_bind]; congr 1; funext ds S1
  cases e : convL cn N κ sl ds with
  | none => simp
  | some ds' =>
    simp only [isO_some]
    cases g ds' S1 with
    | ok d S2 =>
      simp only [we_ok]
      by_cases h : noLc d = true ∧ noLcS S2 = true
      · rw [if_pos h]; simp [h]
      · rw [if_neg h]; simp only [we_bad, h, false_and]
    | ex e S2 => simp
    | bad => simp
@[simp] theorem w_eLam {ti : Nat} {Pa : Addr} {κ : List (Str × Addr)} {T : LamText} : We (eLam ti Pa κ T sl S) P X = (S[ti]? = some (.tab Pa T.qual) ∧ P (.lam T (cloFrom κ T.scope.names [])) S) := by
  unfold eLam
  apply propext
  constructor
  · intro h
    split at h
    · rename_i P' q e
      split at h
      · rename_i hq
        obtain ⟨rfl, rfl⟩ := hq
        rw [we_ok] at h
        exact ⟨e, h⟩
      · rw [we_bad] at h; exact h.elim
    · rw [we_bad] at h; exact h.elim
  · intro ⟨e, h⟩
    rw [e]
    dsimp only
    rw [if_pos ⟨rfl, rfl⟩, we_ok]
    exact h
@[simp] theorem w_defsS {n : Nat} {dds ds : List D} {g : SemL} (h : ds.length = n) : defsS n dds g ds S = g ds S := if_pos h
end
end Z
/-! ZR: ratios: the mirrors of the program's and of the laws' fractions, and what they compute. -/
namespace Z
open PySem PySem.Spec L2
/-- Ratio.bottom -/
noncomputable def m_Ratio_bottom : SX :=
  (sRet (eAttrZ "own_bottom" [("Ratio", .fld)] (eName 0)))
noncomputable def f_Ratio_bottom : SemL := arity 1 (defS 1 m_Ratio_bottom)
/-- Ratio.top -/
noncomputable def m_Ratio_top : SX :=
  (sRet (eAttrZ "own_top" [("Ratio", .fld)] (eName 0)))
noncomputable def f_Ratio_top : SemL := arity 1 (defS 1 m_Ratio_top)
/-- _law_pair -/
noncomputable def m__law_pair : SX :=
  (sRet (eIf (bVal (eArgs (isiO [("Ratio", ["Ratio"], [])]) (aCons (eName 0) (aCons (eLit (.cls "Ratio")) aNil)))) (eArgs semTup (aCons (eAttrZ "top" [("Ratio", .prop f_Ratio_top)] (eName 0)) (aCons (eAttrZ "bottom" [("Ratio", .prop f_Ratio_bottom)] (eName 0)) aNil))) (eLit .non)))
noncomputable def f__law_pair : SemL := arity 1 (defS 1 m__law_pair)
/-- Ratio.__eq__ -/
noncomputable def m_Ratio___eq__ : SX :=
  (sRet (eAnd (eArgs (isiO [("Ratio", ["Ratio"], [])]) (aCons (eName 1) (aCons (eLit (.cls "Ratio")) aNil))) (eAnd (eBin (eqD false) (eAttrZ "own_top" [("Ratio", .fld)] (eName 0)) (eAttrZ "own_top" [("Ratio", .fld)] (eName 1))) (eBin (eqD false) (eAttrZ "own_bottom" [("Ratio", .fld)] (eName 0)) (eAttrZ "own_bottom" [("Ratio", .fld)] (eName 1))))))
noncomputable def f_Ratio___eq__ : SemL := arity 2 (defS 2 m_Ratio___eq__)
/-- Ratio.__bool__ -/
noncomputable def m_Ratio___bool__ : SX :=
  (sRet (eArgs semBool (aCons (eAttrZ "own_top" [("Ratio", .fld)] (eName 0)) aNil)))
noncomputable def f_Ratio___bool__ : SemL := arity 1 (defS 1 m_Ratio___bool__)
theorem finP_eq {S : Store} {P : D → Store → Prop} {d : D} (h : under S.length d = true) : FinP S P d S = P d S := propext ⟨fun ⟨_, d', e, p⟩ => by
    rw [frz_of h] at e; cases e; simpa using p, fun p => finP_same h p⟩
/-! ### sizes -/
def Bd (n : Nat) (x : Int) : Prop := x.natAbs < 2 ^ n
theorem Bd.mono {n m : Nat} {x : Int} (h : Bd n x) (hl : n ≤ m) : Bd m x := Nat.lt_of_lt_of_le h (Nat.pow_le_pow_right (by decide) hl)
theorem Bd.mul {n m : Nat} {x y : Int} (h : Bd n x) (h2 : Bd m y) : Bd (n + m) (x * y) := by
  unfold Bd at *
  rw [Int.natAbs_mul, Nat.pow_add]
  by_cases q : y.natAbs = 0
  · rw [q, Nat.mul_zero]; exact Nat.mul_pos (Nat.pow_pos (by decide)) (Nat.pow_pos (by decide))
  · exact Nat.mul_lt_mul_of_lt_of_le h (Nat.le_of_lt h2) (Nat.pow_pos (by decide))
theorem Bd.add {n m : Nat} {x y : Int} (h : Bd n x) (h2 : Bd m y) : Bd (n + m + 1) (x + y) := by
  have a := h.mono (Nat.le_add_right n m)
  have b := h2.mono (Nat.le_add_left m n)
  unfold Bd at *
  rw [Nat.pow_succ]
  omega
theorem Bd.neg {n : Nat} {x : Int} (h : Bd n x) : Bd n (-x) := by unfold Bd at *; omega
theorem Bd.sub {n m : Nat} {x y : Int} (h : Bd n x) (h2 : Bd m y) : Bd (n + m + 1) (x - y) := by
  rw [Int.sub_eq_add_neg]; exact h.add h2.neg
theorem Bd.of_le {n : Nat} {x y : Int} (h : Bd n x) (h2 : y.natAbs ≤ x.natAbs) : Bd n y := Nat.lt_of_le_of_lt h2 h
/-! ### Euclid -/
/-- the pair, k steps before the end -/
def EuI (g : Nat) (k : Nat) (a b : Int) : Prop := ∃ m n : Nat, a = m ∧ b = n ∧ Nat.gcd m n = g ∧ ((n ≤ m ∧ m * n < 2 ^ k) ∨ (1 ≤ k ∧ m < n ∧ m * n < 2 ^ (k - 1)))
theorem EuI.start {n m : Nat} {p q : Int} (h : Bd n p) (h2 : Bd m q) : EuI (Int.gcd p q) (n + m + 1) (if p < 0 then -p else p) (if q < 0 then -q else q) := by
  have e : ∀ x : Int, (if x < 0 then -x else x) = (x.natAbs : Int) := fun x => by split <;> omega
  refine ⟨p.natAbs, q.natAbs, e p, e q, rfl, ?_⟩
  have h3 : p.natAbs * q.natAbs < 2 ^ (n + m) := by have := h.mul h2; unfold Bd at this; rwa [Int.natAbs_mul] at this
  by_cases q' : q.natAbs ≤ p.natAbs
  · exact .inl ⟨q', Nat.lt_of_lt_of_le h3 (Nat.pow_le_pow_right (by decide) (by omega))⟩
  · exact .inr ⟨by omega, by omega, by simpa using h3⟩
/-! ### lowest terms -/
def num (p q : Int) : Int := if 0 < q then p / (Int.gcd p q : Int) else (-p) / (Int.gcd p q : Int)
def den (p q : Int) : Int := (q.natAbs : Int) / (Int.gcd p q : Int)
theorem gcd_pos {p q : Int} (hq : q ≠ 0) : 0 < (Int.gcd p q : Int) := by
  have := Int.gcd_pos_of_ne_zero_right p hq
  omega
theorem den_pos {p q : Int} (hq : q ≠ 0) : 0 < den p q := by
  unfold den
  have h := gcd_pos (p := p) hq
  refine Int.ediv_pos_of_pos_of_dvd (by omega) (by omega) ?_
  have := Int.gcd_dvd_right p q
  exact Int.dvd_natAbs.mpr this
theorem natAbs_ediv_le' {x : Int} {g : Int} (hg : 0 < g) (hd : g ∣ x) : (x / g).natAbs ≤ x.natAbs := by
  obtain ⟨k, rfl⟩ := hd
  rw [Int.mul_ediv_cancel_left _ (by omega), Int.natAbs_mul]
  exact Nat.le_mul_of_pos_left _ (by omega)
theorem Bd.num {n : Nat} {p q : Int} (h : Bd n p) (hq : q ≠ 0) : Bd n (Z.num p q) := by
  unfold Z.num
  have hg := gcd_pos (p := p) hq
  have hd : (Int.gcd p q : Int) ∣ p := Int.gcd_dvd_left p q
  split
  · exact h.of_le (natAbs_ediv_le' hg hd)
  · exact h.neg.of_le (natAbs_ediv_le' hg (Int.dvd_neg.mpr hd))
theorem Bd.den {n : Nat} {p q : Int} (h : Bd n q) (hq : q ≠ 0) : Bd n (Z.den p q) := by
  unfold Z.den
  have hg := gcd_pos (p := p) hq
  refine Bd.of_le (x := q) h ?_
  refine Nat.le_trans (natAbs_ediv_le' hg ?_) (by simp)
  exact Int.dvd_natAbs.mpr (Int.gcd_dvd_right p q)
def fracD (p q : Int) : D := .tup [.int (num p q), .int (den p q)]
/-! ### the program's ratios -/
@[simp] theorem neg_int (i : Int) (S : Store) : negI (.int i) S = .ok (.int (-i)) S := (rfl)
def ratD (p q : Int) : D := .ins "Ratio" ["own_top", "own_bottom"] [.int p, .int q]
@[simp] theorem under_ratD {k : Nat} {p q : Int} : under k (ratD p q) = true := by simp [ratD]
@[simp] theorem under_fracD {k : Nat} {p q : Int} : under k (fracD p q) = true := by simp [fracD]
/-- a refused value -/
def exR (v : D) : D := .ins "InvalidRatio" ["value", "tag"] [v, .str "InvalidRatio"]
@[simp] theorem under_exR {k : Nat} {v : D} : under k (exR v) = under k v := by simp [exR]
section
variable {S : Store} {P X : D → Store → Prop} {p q : Int} {n m : Nat}
@[simp] theorem flds_rat : fldsOf S (ratD p q) = some (("Ratio" : Str), (["own_top", "own_bottom"] : List Str), ([.int p, .int q] : List D)) := (rfl)
@[simp] theorem look_top {u v : D} : lookN "own_top" ["own_top", "own_bottom"] [u, v] = some u := by simp [lookN]
@[simp] theorem look_bottom {u v : D} : lookN "own_bottom" ["own_top", "own_bottom"] [u, v] = some v := by
  simp only [lookN]
  rw [if_neg (by decide)]
  simp
@[simp] theorem isi_rat {t : List (Str × List Str × List Str)} : isiO (("Ratio", ["Ratio"], []) :: t) [ratD p q, .cls "Ratio"] S = .ok (.bl true) S := by
  unfold ratD
  rw [isiO_ins]
  simp
end
/-- a fraction in lowest terms, of a size -/
structure LT (n : Nat) (p q : Int) : Prop where
  up : Bd n p
  dn : Bd n q
  pos : 0 < q
  one : Int.gcd p q = 1
theorem LT.mono {n m : Nat} {p q : Int} (h : LT n p q) (hl : n ≤ m) : LT m p q := ⟨h.up.mono hl, h.dn.mono hl, h.pos, h.one⟩
theorem LT.num {n : Nat} {p q : Int} (h : LT n p q) : Z.num p q = p := by simp [Z.num, h.pos, h.one]
theorem LT.den {n : Nat} {p q : Int} (h : LT n p q) : Z.den p q = q := by
  have := h.pos
  have e : (q.natAbs : Int) = q := by omega
  simp [Z.den, h.one, e]
theorem gcd_num_den {p q : Int} (hq : q ≠ 0) : Int.gcd (num p q) (den p q) = 1 := by
  have hg : 0 < Int.gcd p q := Int.gcd_pos_of_ne_zero_right p hq
  have e := Int.gcd_ediv_gcd_ediv_gcd hg
  have h1 : (Int.gcd p q : Int) ∣ p := Int.gcd_dvd_left p q
  have h2 : (Int.gcd p q : Int) ∣ q := Int.gcd_dvd_right p q
  unfold num den
  by_cases q0 : 0 < q
  · have ea : (q.natAbs : Int) = q := by omega
    rw [if_pos q0, ea]; exact e
  · have ea : (q.natAbs : Int) = -q := by omega
    rw [if_neg q0, ea, Int.neg_ediv_of_dvd h1, Int.neg_ediv_of_dvd h2, Int.gcd_neg, Int.neg_gcd]; exact e
theorem LT.of {n m : Nat} {p q : Int} (hp : Bd n p) (hq : Bd m q) (h0 : q ≠ 0) : LT (n + m) (Z.num p q) (Z.den p q) :=
  ⟨(hp.num h0).mono (Nat.le_add_right n m), (hq.den h0).mono (Nat.le_add_left m n), den_pos h0, gcd_num_den h0⟩
theorem LT.neg {n : Nat} {p q : Int} (h : LT n p q) : LT n (-p) q := ⟨h.up.neg, h.dn, h.pos, by rw [Int.neg_gcd]; exact h.one⟩
section
variable {S : Store} {P X : D → Store → Prop} {p q p' q' : Int} {n : Nat} {d : D}
abbrev numA (p q p' q' : Int) : Int := num (p * q' + p' * q) (q * q')
abbrev denA (p q p' q' : Int) : Int := den (p * q' + p' * q) (q * q')
theorem mul_ne {a b : Int} (h : 0 < a) (h2 : 0 < b) : a * b ≠ 0 := by have := Int.mul_pos h h2; omega
theorem LT.add {m : Nat} (h : LT n p q) (h' : LT m p' q') : LT (3 * (n + m) + 1) (numA p q p' q') (denA p q p' q') :=
  (LT.of (((h.up.mul h'.dn).add (h'.up.mul h.dn))) (h.dn.mul h'.dn) (mul_ne h.pos h'.pos)).mono (by omega)
abbrev numM (p q p' q' : Int) : Int := num (p * p') (q * q')
abbrev denM (p q p' q' : Int) : Int := den (p * p') (q * q')
theorem LT.mul {m : Nat} (h : LT n p q) (h' : LT m p' q') : LT (2 * (n + m)) (numM p q p' q') (denM p q p' q') :=
  (LT.of (h.up.mul h'.up) (h.dn.mul h'.dn) (mul_ne h.pos h'.pos)).mono (by omega)
@[simp] theorem bool_eq : f_Ratio___bool__ [ratD p q] S = .ok (.bl (p != 0)) S := by
  refine eq_of_we ?_
  unfold f_Ratio___bool__
  refine we_def rfl ?_
  simp [m_Ratio___bool__, semBool]
@[simp] theorem rtop_eq : f_Ratio_top [ratD p q] S = .ok (.int p) S := by
  refine eq_of_we ?_
  unfold f_Ratio_top
  refine we_def rfl ?_
  simp [m_Ratio_top]
@[simp] theorem rbottom_eq : f_Ratio_bottom [ratD p q] S = .ok (.int q) S := by
  refine eq_of_we ?_
  unfold f_Ratio_bottom
  refine we_def rfl ?_
  simp [m_Ratio_bottom]
def pairD (p q : Int) : D := .tup [.int p, .int q]
@[simp] theorem under_pairD {k : Nat} {p q : Int} : under k (pairD p q) = true := by simp [pairD]
@[simp] theorem pair_eq : f__law_pair [ratD p q] S = .ok (pairD p q) S := by
  refine eq_of_we ?_
  unfold f__law_pair
  refine we_def rfl ?_
  simp [m__law_pair, pairD]
  exact finP_same (by simp) ⟨rfl, rfl⟩
@[simp] theorem req_eq : f_Ratio___eq__ [ratD p q, ratD p' q'] S = .ok (.bl (decide (p = p' ∧ q = q'))) S := by
  refine eq_of_we ?_
  unfold f_Ratio___eq__
  refine we_def rfl ?_
  by_cases h : p = p'
  · simp [m_Ratio___eq__, h]
  · simp [m_Ratio___eq__, h]
@[simp] theorem tru_rat {t : SemB} : orSB truPl t (ratD p q) S = t (ratD p q) S := (rfl)
@[simp] theorem own1_rat {tab : List (Str × SemL)} : own1 tab (ratD p q) S = match tabOf tab "Ratio" with
    | some g => g [ratD p q] S
    | none => .bad := (rfl)
@[simp] theorem addX_rat {e : D} {g : Sem2} : orS2 addX g (ratD p q) e S = g (ratD p q) e S := addX_ins
@[simp] theorem subI_rat {e : D} {g : Sem2} : orS2 subI g (ratD p q) e S = g (ratD p q) e S := subI_ins
@[simp] theorem mulX_rat {e : D} {g : Sem2} : orS2 mulX g (ratD p q) e S = g (ratD p q) e S := mulX_ins
@[simp] theorem negI_rat {g : Sem1} : orS1 negI g (ratD p q) S = g (ratD p q) S := negI_ins
@[simp] theorem eqD_rat {neg : Bool} {e : D} {g : Sem2} : orS2 (eqD neg) g (ratD p q) e S = g (ratD p q) e S := eqD_ins
@[simp] theorem ownOp_rat {tab : List (Str × SemL)} {e : D} : We (ownOp tab (ratD p q) e S) P X = isO (tabOf tab "Ratio") fun g => okRt S "Ratio" e = true ∧ We (g [ratD p q, e] S) P X := w_ownOp_ins
@[simp] theorem okRt_rat {c : Str} : okRt S c (ratD p q) = decide ("Ratio" = c) := (rfl)
@[simp] theorem ownEq_rat {neg : Bool} {oth : List Str} {tab : List (Str × SemL)} {e : D} : We (ownEq neg oth tab (ratD p q) e S) P X = isO (tabOf tab "Ratio") fun g => okRtE oth S e = true ∧ We (g [ratD p q, e] S) (fun r S' => isB r fun b => P (.bl (if neg = true then !b else b)) S') X := w_ownEq_ins
@[simp] theorem okRtE_rat {oth : List Str} : okRtE oth S (ratD p q) = decide (("Ratio" : Str) ∈ oth) := (rfl)
/-! the law's own fractions -/
end
@[simp] theorem finP_rat {S : Store} {P : D → Store → Prop} {p q : Int} : FinP S P (ratD p q) S = P (ratD p q) S := finP_eq under_ratD
@[simp] theorem finP_pair {S : Store} {P : D → Store → Prop} {p q : Int} : FinP S P (pairD p q) S = P (pairD p q) S := finP_eq under_pairD
@[simp] theorem ix_pair0 {S : Store} {p q : Int} : ixX (pairD p q) (.int 0) S = .ok (.int p) S := rfl
@[simp] theorem ix_pair1 {S : Store} {p q : Int} : ixX (pairD p q) (.int 1) S = .ok (.int q) S := rfl
end Z
/-! ZY7: isinstance(e, C) of held exceptions (they have a dict). -/
namespace PySem.W
open PySem PySem.Spec PySem.Calls PyProof.Rows
section
variable {prog : Program} {w : World} {A : Around} {E : Value → Shared → Prop} {s : Shared} {K : Frag} {x D : Addr} {ox : Obj} {od : Option Obj}
theorem zy_findObj {C : Addr} {name : Str} {a g : Value} (hc : (clsIn K C).isSome = true) (ha : findIn K (.ref C) name = some (some a)) (hg : specialIn K a "__get__" = some (some g)) (ht : takesIn K a = some true) : findObj K C od name = some (.bind g a) := by
  obtain ⟨cd, hc⟩ := Option.isSome_iff_exists.mp hc
  unfold findObj
  rw [hc, Option.bind_some, ha, Option.bind_some]
  simp [hg, ht]
theorem zy_classE {Q : Option Value → Shared → Prop} (hga : findIn K (.ref D) "__getattribute__" = some (some (.builtin "BaseException.__getattribute__"))) (hgt : findIn K (.ref D) "__getattr__" = some none) (hsub : subIn K (.ref D) (.type "BaseException") = some true)
    (hdct : hasDictIn K D = true) (ha : findIn K (.ref D) "__class__" = some (some (.builtin "object.__class__")))
    (hn : specialIn K (.builtin "object.__class__") "__get__" = some (some (.builtin "getset_descriptor.__get__"))) (htk : takesIn K (.builtin "object.__class__") = some true) (hm : mroIn K D (.type "object") = some true)
    (X : K.In s.heap) (I : InstAt s.heap x ox D od) (h : Q (some (.ref D)) { s with toks := s.toks + 1 }) : wpAny (model prog w) A (getAttr? (.ref x) "__class__") Q E s := by
  have hf : findObj K D od "__class__" = some (.bind (.builtin "getset_descriptor.__get__") (.builtin "object.__class__")) := zy_findObj (by obtain ⟨cd, hc, _⟩ := any_some hdct; rw [hc]; rfl) ha hn htk
  obtain ⟨hp, g, d, t, os⟩ := s
  have L0 := I.type (M := model prog w)
  have L1 := looks_findIn (M := model prog w) X hga
  have L2 := looks_findIn (M := model prog w) X hgt
  have L3 := looks_find (M := model prog w) X I hf
  have sub : Looks (model prog w) hp (isInstance (.ref x) (.type "BaseException")) true := L0.andThen (looks_subIn X hsub)
  have hx0 : (false && onTheHeap (Value.builtin "BaseException.__getattribute__")) = false := rfl
  have hx2 : (Value.builtin "BaseException.__getattribute__" == Value.builtin "object.__getattribute__") = false := by decide +kernel
  have hx1 : (onTheHeap (Value.ref D) && Value.builtin "BaseException.__getattribute__" == Value.builtin "object.__getattribute__") = false := by rw [hx2]; rfl
  unfold getAttr? getAttrBy? getAttrBy
  refine wpAny_bind (wpAny_mkText (wpAny_bind (wpAny_attempt (wpAny_holding (wpAny_bind (L0.at (wpAny_bind (L1.at ?_))))))))
  show wpAny _ _ (if (onTheHeap (Value.ref D) && Value.builtin "BaseException.__getattribute__" == Value.builtin "object.__getattribute__") = true then _ else _) _ _ _
  rw [hx1, if_neg Bool.false_ne_true]
  unfold getAttrByItsOwn hookBefore
  refine wpAny_bind ?_
  rw [if_pos (show onTheHeap (Value.ref D) = true from rfl)]
  refine L2.at ?_
  refine wpAny_bind (wpAny_attempt (wpAny_holding ?_))
  unfold callGetattribute
  rw [hx0, if_neg Bool.false_ne_true]
  unfold boundAndCalled
  rw [PySem.F.excAttr_ValueError.ga.bind (.ref x)]
  refine wpAny_bind (wpAny_pure ?_)
  show wpAny _ _ (call (.builtin "BaseException.__getattribute__") [.ref x, .str "__class__" t]) _ _ _
  refine wpAny_call (codeAny_call_builtin PySem.F.excAttr_ValueError.ga.plain PySem.F.entry_bexc_ga ?_)
  refine @check_slot (model prog w) _ _ ⟨hp, g, d, t + 1, os⟩ "BaseException.__getattribute__" "BaseException" "__getattribute__" (.ref x) [.str "__class__" t] [] _ (by decide +kernel) (by decide +kernel) sub (PySem.F.args_bexc_ga (.ref x) (.str "__class__" t)) ?_
  unfold Builtin.«object.__getattribute__»
  refine wpAny_bind (wpAny_of_eq (a := ((Value.ref x : Value), [Value.str "__class__" t])) (by first | rfl | (simp only [slotArgs]; rfl)) ?_)
  refine wpAny_bind (wpAny_pure (wpAny_bind (L0.at (wpAny_bind (L3.at ?_)))))
  show wpAny _ _ (holding [Value.builtin "object.__class__"] (call (.builtin "getset_descriptor.__get__") [.builtin "object.__class__", .ref x, .ref D]) >>= ret) _ _ _
  refine wpAny_bind (wpAny_holding (wpAny_call (class_get (s := ⟨hp, g, d, t + 1, os⟩) (ox := ox) (od := od) X I hm ?_)))
  refine wpAny_pure ?_
  show wpAny _ _ (handedOut (.ref D)) _ _ _
  rw [handedOut_of (v := .ref D) rfl]
  first
    | exact wpAny_pure (wpAny_pure h)
    | exact wpAny_pure h
    | exact wpAny_pure (wpAny_bind (wpAny_pure (wpAny_pure h)))
theorem zy_kitx (hga : findIn K (.ref D) "__getattribute__" = some (some (.builtin "BaseException.__getattribute__"))) (hgt : findIn K (.ref D) "__getattr__" = some none) (hsub : subIn K (.ref D) (.type "BaseException") = some true) (hdct : hasDictIn K D = true) (ha : findIn K (.ref D) "__class__" = some (some (.builtin "object.__class__")))
    (hn : specialIn K (.builtin "object.__class__") "__get__" = some (some (.builtin "getset_descriptor.__get__"))) (htk : takesIn K (.builtin "object.__class__") = some true) (hm : mroIn K D (.type "object") = some true) :
    KitX K (.ref x) (.ref D) (fun h => InstAt h x ox D od) where
  ty := fun _ _ _ I => I.type
  it := fun _ _ X _ => by
    obtain ⟨cdD, hcD, _⟩ := any_some hdct
    unfold clsIn at hcD
    split at hcD
    · rename_i c' d' cd' sl' ho
      intro A' Q' E' s' k q
      unfold isType loadHead
      exact wpAny_bind (wpAny_loadPart (k _ _ (X _ _ ho)) (wpAny_pure q))
    · cases hcD
  ne := fun h tp dd its n sl X htp => by
    obtain ⟨cdD, hcD, _⟩ := any_some hdct
    refine Bool.eq_false_iff.mpr fun q => ?_
    have e : D = tp := Value.ref.inj (beq_iff_eq.mp q)
    subst e
    unfold clsIn at hcD
    split at hcD
    · rename_i c' d' cd' sl' ho
      have z := (X _ _ ho).symm.trans htp
      cases z
    · cases hcD
  ca := fun X I k => zy_classE hga hgt hsub hdct ha hn htk hm X I k
end
end PySem.W
namespace Z
open PySem PySem.Spec L2 PyProof.Rows
/-- isinstance(e, c) over the heap -/
def rIsX (K : PySem.W.Frag) : List V → Hp → VK → Prop := fun xs H Q => ∃ (a C d : Addr) (c : V) (u : Value) (fs : List (Str × V)) (b : Bool), xs = [.ref a, c] ∧ H a = some (ExD a C d) ∧ H d = some (.xd fs) ∧ ExcC K C ∧ ClsV c u ∧ PySem.W.kitOne K (.ref C) u = some b ∧ Q (.bl b) H
theorem call_isX {X : Cx} : CallR X (.builtin "isinstance") (rIsX X.K) := by
  intro pins s σ H xs us Q I r h
  obtain ⟨a, C, dd, c, u, fs, b, rfl, ha, hd, T, k, e, q⟩ := h
  obtain ⟨u1, u2, rfl, r1, r2⟩ := vals2 r
  obtain rfl : u1 = Value.ref a := r1
  have e2 := k.eq r2
  subst e2
  obtain ⟨⟨oe, ws, he, hz, hdt⟩, _, _⟩ : ObjOk X.prog X.w H s.heap a (.ext fun h => ∃ (oe : Obj) (vs : Array Value), h.get? a = some oe ∧ Zc (.ref C) (some dd) oe ∧ oe.data = .fields vs) := I.hok a _ ha
  have hx : ObjOk X.prog X.w H s.heap dd (.xd fs) := I.hok dd _ hd
  obtain ⟨mA, hns, hr⟩ := hx
  obtain ⟨od, ho', hl⟩ := lookIn_ns hns
  have J : PySem.W.InstAt s.heap a oe C (some od) := ⟨he, hz.1, by unfold PySem.W.notCls; rw [hdt] <;> rfl, by rw [hz.2]; exact ho'⟩
  exact PySem.W.kia_one (PySem.W.zy_kitx T.hg T.hk T.hs T.hd T.ha T.hn T.ht T.hm) I.kIn J e (fun z => nomatch z) fun tk => ⟨.bl b, H, I.tok tk, rfl, q⟩
/-- whether t is the class D: one of the program's classes, or a built-in one -/
def isCls (t : D) (c : Str ⊕ String) : Bool := match t, c with
  | .cls a, .inl b => decide (a = b)
  | .ty a, .inr b => decide (a = b)
  | _, _ => false
def clsVal (mg : Str → Option Value) : Str ⊕ String → Option Value
  | .inl c => mg c
  | .inr n => some (.type n)
/-- what is asked of one class D: the classes of exceptions below it, those that are not -/
def IsX1 (K : PySem.W.Frag) (mg : Str → Option Value) (D : Str ⊕ String) (yes no : List Str) : Prop :=
  ∀ u, clsVal mg D = some u → (∀ c ∈ yes, ∀ C, mg c = some (.ref C) → ExcC K C ∧ PySem.W.kitOne K (.ref C) u = some true) ∧ (∀ c ∈ no, ∀ C, mg c = some (.ref C) → ExcC K C ∧ PySem.W.kitOne K (.ref C) u = some false)
def isiE (c0 : Str ⊕ String) (yes no : List Str) : SemL := fun ds S => match ds with
  | [.exc c _ _, t] => if isCls t c0 = true then (if c ∈ yes then .ok (.bl true) S else if c ∈ no then .ok (.bl false) S else .bad) else .bad
  | _ => .bad
theorem isCls_rep {K : PySem.W.Frag} {mg : Str → Option Value} {ρ : List Addr} {H : Hp} {t : D} {v : V} {c0 : Str ⊕ String} (e : isCls t c0 = true) (r : Rep K mg ρ H t v) : ∃ u, clsVal mg c0 = some u ∧ ClsV v u := by
  unfold isCls at e
  split at e
  · have e := of_decide_eq_true e
    subst e
    rw [Rep] at r
    obtain ⟨C, h, rfl⟩ := r
    exact ⟨_, h, .own C⟩
  · have e := of_decide_eq_true e
    subst e
    rw [Rep] at r
    subst r
    exact ⟨_, rfl, .ty _⟩
  · cases e
theorem ow_isX {X : Cx} {c0 : Str ⊕ String} {yes no : List Str} (ht : IsX1 X.K X.mg c0 yes no) : CallD X (.builtin "isinstance") (isiE c0 yes no) := by
  refine ⟨_, call_isX, fun Wp ρ H S ds xs Q w r p => ?_⟩
  unfold isiE at p
  split at p
  · rename_i c ns vs t
    split at p
    · rename_i e1
      rw [RepL] at r
      obtain ⟨v, r', e, h1, h2⟩ := r
      rw [RepL] at h2
      obtain ⟨u, r2, e3, h3, h4⟩ := h2
      rw [RepL] at h4
      subst h4 e3 e
      obtain ⟨cu, eu, hcv⟩ := isCls_rep e1 h3
      obtain ⟨a2, a3⟩ := ht cu eu
      rw [Rep] at h1
      obtain ⟨a, C, dd, fs, ex, na, nd, hm, ha, hd, hn, rl⟩ := h1
      subst ex
      split at p
      · rename_i hy
        obtain ⟨t, kk⟩ := a2 c hy C hm
        exact ⟨a, C, dd, u, cu, fs, true, rfl, ha, hd, t, hcv, kk, post_ok p w mk_bl⟩
      · split at p
        · rename_i hy
          obtain ⟨t, kk⟩ := a3 c hy C hm
          exact ⟨a, C, dd, u, cu, fs, false, rfl, ha, hd, t, hcv, kk, post_ok p w mk_bl⟩
        · exact p.elim
    · exact p.elim
  · exact p.elim
end Z
/-! ZY8: C(k = v, ..) of an exception class. -/
namespace ZX
open PySem PySem.W PySem.Calls PyProof.Rows PySem.Spec
open L2 (V Vals RelV RelO)
/-- an __init__ that is called with mk's arguments -/
def InitOkA (mk : List Value → Args) (prog : Program) (w : World) (base : Heap) (k : Nat) (f C : Addr) (G : List V → Option (List (Str × V))) : Prop :=
  ∀ (A : Around) (s : Shared) (x t : Addr) (us : List Value) (vs : List V) (fs : List (Str × V)) (R : Result → Shared → Prop), A.depth + k < recursionLimit → (∀ b o, base.get? b = some o → s.heap.get? b = some o) → base.get? x = none → s.heap.get? x = some (exd C t none) → Vals vs us → G vs = some fs →
    (∀ h' tk t' dx m, (∀ b o, b ≠ x → s.heap.get? b = some o → h'.get? b = some o) → s.heap.objs.size ≤ dx → h'.get? x = some (exd C t' (some dx)) → h'.Ns1 dx m → (∀ g, RelO (fs.lookup g) (m g)) → R (.ok (.ret .none)) { s with heap := h', toks := tk }) →
    codeAny (model prog w) A (.call (.ref f) (mk (.ref x :: us))) R s
theorem InitOkA.cast {mk : List Value → Args} {prog : Program} {w : World} {base : Heap} {k : Nat} {f C : Addr} {G G' : List V → Option (List (Str × V))} (h : InitOkA mk prog w base k f C G) (e : ∀ vs, G' vs = G vs) : InitOkA mk prog w base k f C G' := fun A s x t us vs fs R h1 h2 h3 h4 h5 h6 h7 => h A s x t us vs fs R h1 h2 h3 h4 h5 (by rw [← e]; exact h6) h7
section
variable {prog : Program} {w : World} {K : Frag} {mg : Str → Option Value} {base : Heap} {C D f : Addr} {B i newId : String} {bmB : List Value} {slf g qual : Str} {params : Arguments} {scope : Scope} {e0 e1 : Expr} {p0 p1 p2 p4 p5 p6 p7 p9 : Pos} {ps : List Str} {sts : List Stmt} {l : List (Str × Str)}
theorem initOwnA {mk : List Value → Args} (hbd : ∀ (fd : FuncData) (us : List Value), fd.params = params → fd.defaults = .none → us.length = (slf :: ps).length → bindArgs fd (mk us) = pure ((slf :: ps).zip us)) {f2 : Addr} {G2 : List V → Option (List (Str × V))} {k : Nat} (F2 : InitOk prog w base k f2 C G2) (SF : StoreFacts B bmB "object.__setattr__" "object") (M : SupM prog K mg base)
    (FN : SupFn prog K f D qual params (.Expr (.Call (.Attribute (.Call (.Name "super" p0) [] [] p1) "__init__" p2) [e0] [] p4) p5 :: sts) scope)
    (S : SupS scope slf) (T : ExC K C bmB newId) (hh : hasDictIn K C = true) (P : ParOk params scope slf ps) (hsub : mroIn K C (.ref D) = some true) (hm : ks_superIn K C D "__init__" = some (some (.ref f2))) (hf2 : (K.lookup f2).map (·.cls) = some (.type "function")) (hfn2 : fnIn K f2 = true)
    (hds : (slf == ("__debug__" : Str)) = false) (hT : ∀ env : Env, SupT env e0 p0 p1 p2 p4 p5)
    {r0 : (Str → V) → V} (h0 : ∀ (env : Env) (vof : Str → V), env.scope = scope → Rd1 env vof e0 (r0 vof)) (hr0 : ∀ v1 v2 : Str → V, (∀ p ∈ ps, v1 p = v2 p) → r0 v1 = r0 v2)
    (ha : ∀ env : Env, env.scope = scope → Asgs env slf sts l) (hl : ∀ fp ∈ l, findIn K (.ref C) fp.1 = some none ∧ fp.2 ∈ ps) (hlen : l.length ≤ 100) (hG2 : ∀ vs fs, G2 vs = some fs → fs.length ≤ 800) :
    InitOkA mk prog w base (k + 1) f C (fun vs => if vs.length = ps.length then (G2 [r0 (vofP ps vs)]).map (fun fs => l.foldl (fun fs fp => (fp.1, vofP ps vs fp.2) :: fs) fs) else none) := by
  intro A s x t us vs fs R hdep bk hxb hx rv hG h
  dsimp only at hG
  split at hG
  · rename_i hln
    obtain ⟨fs2, hfs2, hfs⟩ := Option.map_eq_some_iff.mp hG
    have hlu : us.length = ps.length := by rw [← rv.length]; exact hln
    obtain ⟨oc, od, name, kV, doc, pm, an, cda, cc, ct, osl, lk, hcd, ⟨ccl, cdd, ccs, vss, file, tf, lk2, hv2, hfile⟩, ⟨cl, cld, csl, lk3⟩⟩ := FN.ex
    obtain ⟨cdD, hD⟩ := FN.cls
    have X : K.In s.heap := M.mod.kin.keeps bk
    have lim : s.heap.NoLimit := M.mod.nolimit.keeps bk
    obtain ⟨ar, har, hars⟩ := Option.map_eq_some_iff.mp P.head
    refine ks_codeAny_call_defAt (binds := (slf :: ps).zip (.ref x :: us)) (by omega) (X _ _ lk) rfl lim (codeRec_of X hcd) rfl (BindsTo.of_eq (hbd _ _ rfl rfl (by simp [hlu]))) S.cell (fun y hy => P.loc y.1 (List.of_mem_zip hy).1) (fun h₀ hns kp => ?_) S.co S.gen S.kind
    have hxs : x ≠ s.heap.objs.size := Nat.ne_of_lt (Heap.lt_size hx)
    have hz : ∀ {p : Str}, p ∈ slf :: ps → ∃ u, (((slf :: ps).zip (.ref x :: us)).reverse).lookup p = some u ∧ RelV (vofP (slf :: ps) (.ref x :: vs) p) u := fun {p} hp => zip_look P.nd (.cons (show RelV (.ref x) (.ref x) from rfl) rv) (by simp [hlu]) hp
    have hself : (((slf :: ps).zip (Value.ref x :: us)).reverse).lookup slf = some (.ref x) := by rw [lookup_rev P.nd]; simp [List.lookup]
    have hvof : ∀ p ∈ ps, vofP (slf :: ps) (.ref x :: vs) p = vofP ps vs p := fun p hp => by
      have : (p == slf) = false := by
        have := (List.nodup_cons.mp P.nd).1
        simp only [beq_eq_false_iff_ne, ne_eq]
        intro e; exact this (e ▸ hp)
      unfold vofP
      simp [List.lookup, this]
    have hx0 := kp _ _ hx
    refine ks_wpAt_execs_cons ?_
    show _root_.PySem.wpAt (model prog w) _ (.func _ (ksEnv qual scope s.heap.objs.size f (.ref cda) cc)) (exec _ (ksEnv qual scope s.heap.objs.size f (.ref cda) cc)) _ _ _
    obtain ⟨pl, hev⟩ := (hT (ksEnv qual scope s.heap.objs.size f (.ref cda) cc)).hev
    have hmL : ∀ p, (ksEnv qual scope s.heap.objs.size f (.ref cda) cc).kindOf p = some .local → ∃ u, (((slf :: ps).zip (Value.ref x :: us)).reverse).lookup p = some u ∧ RelV (vofP (slf :: ps) (.ref x :: vs) p) u := fun p hp => hz (P.only (p, .local) (PySem.mem_of_lookup hp) rfl)
    refine sup_own (fd := ksFn name qual params _ scope .none kV doc pm an (.ref cda) ct cc) (ar := ar) (t := t) M (by rw [hars]; exact S) T (fun b o e => kp b o (bk b o e)) hns lk har (by rw [hars]; exact hself) hx0 hf2 hfn2 lk2 hv2 hfile lk3 hD hsub hm (Rv := fun v => RelV (r0 (vofP (slf :: ps) (.ref x :: vs))) v)
      (fun s1 Q1 hn1 hq => (h0 (ksEnv qual scope s.heap.objs.size f (.ref cda) cc) _ rfl).run S.kind rfl hmL hn1 hq) (fun h' tk v rv0 kq => ?_) (hT _).hs hev (hT _).hst
    have e0' : r0 (vofP (slf :: ps) (.ref x :: vs)) = r0 (vofP ps vs) := hr0 _ _ hvof
    rw [e0'] at rv0
    have dd : (A.deeper (ksEnv qual scope s.heap.objs.size f (.ref cda) cc)).depth + k < recursionLimit := by
      show A.depth + 1 + k < _
      omega
    refine F2 _ _ x t [v] [r0 (vofP ps vs)] fs2 _ dd (fun b o e => kq b o (kp b o (bk b o e))) hxb (kq _ _ hx0) (.cons rv0 .nil) hfs2 fun h2 tk2 t' dx m k2 hdx hx2 hn2 rel => ?_
    have sz : s.heap.objs.size < h'.objs.size := by
      obtain ⟨oL, es, ep, hL, r⟩ := hns
      exact Heap.lt_size (kq _ _ hL)
    have hdx' : s.heap.objs.size < dx := Nat.lt_of_lt_of_le sz hdx
    have kL : s.heap.objs.size ≠ x := hxs.symm
    have hns' : h2.Ns s.heap.objs.size (fun y => ((slf :: ps).zip (Value.ref x :: us)).reverse.lookup y) := by
      obtain ⟨oL, es, ep, hL, r⟩ := hns
      exact ⟨oL, es, ep, k2 _ _ kL (kq _ _ hL), r⟩
    have nbx : ∀ {b : Addr} {o : Obj}, base.get? b = some o → b ≠ x := fun {b o} e z => by
      rw [z, hxb] at e
      cases e
    have hxd : x ≠ dx := Nat.ne_of_lt (Nat.lt_trans (Heap.lt_size hx) hdx')
    refine wpAt_of_wpAny (asgs_run (env := ksEnv qual scope s.heap.objs.size f (.ref cda) cc) (vof := vofP (slf :: ps) (.ref x :: vs)) (s := { s with heap := h2, toks := tk2 }) SF M.mod.kin T hh S.kind rfl (P.loc slf (List.mem_cons_self ..)) hds hself (ha _ rfl) (fun b o e => ⟨k2 b o (nbx e) (kq b o (kp b o (bk b o e))), Nat.ne_of_lt (Nat.lt_trans (Heap.lt_size (bk b o e)) hdx')⟩)
      (fun fp hm => ⟨(hl fp hm).1, hz (List.mem_cons_of_mem _ (hl fp hm).2)⟩) hns' (Nat.ne_of_lt hdx') hxd hx2 hn2 rel (by have := hG2 _ _ hfs2; omega) fun h3 tk3 m3 k3 hx3 hn3 rel3 => ?_)
    have hfold : ∀ (l' : List (Str × Str)) (fs : List (Str × V)), (∀ fp ∈ l', fp.2 ∈ ps) → l'.foldl (fun fs fp => (fp.1, vofP (slf :: ps) (.ref x :: vs) fp.2) :: fs) fs = l'.foldl (fun fs fp => (fp.1, vofP ps vs fp.2) :: fs) fs := by
      intro l'
      induction l' with
      | nil => intro fs _; rfl
      | cons fp l' ih =>
        intro fs hm
        rw [List.foldl_cons, List.foldl_cons, hvof _ (hm fp (List.mem_cons_self ..))]
        exact ih _ fun q hq => hm q (List.mem_cons_of_mem _ hq)
    rw [hfold l fs2 (fun fp hm => (hl fp hm).2), hfs] at rel3
    exact h h3 tk3 t' dx m3 (fun b o hb e => k3 b o (Nat.ne_of_lt (Nat.lt_trans (Heap.lt_size e) hdx')) (k2 b o hb (kq b o (kp b o e)))) (Nat.le_of_lt hdx') hx3 hn3 rel3
  · cases hG
end
end ZX
namespace PySem.HandSPX
open PySem PySem.Spec Builtin Builtin.ObjectAttr
section
variable {prog : Program} {w : World} {A : Around} {E : Value → Shared → Prop} {R : Result → Shared → Prop} {h : Heap} {g : Array GenState} {d : Drawn} {t : Nat} {os : OsState}
variable {nm q : Str} {C N : Addr} {bs bm bmB : List Value} {hdct : Bool} {sn : List Str} {sub : List Value} {ab : Bool} {col : Option Bool} {dd : Option Addr} {k0 k1 k2 k3 k5 : Option Value} {B newId initId : String}
theorem zy_check_new {M : Model} (F : ExcBaseFacts B newId initId bmB) (hT : ∀ X : String, bm.contains (.type X) = bmB.contains (.type X)) {rest : List Value} {kw : List (Str × Value)} {Q : Unit → Shared → Prop}
    (hC : h.get? C = some (excClassObj nm q C N bs bm hdct sn sub ab col dd k0 k1 k2 k3 k5 newId)) (hq : Q () ⟨h, g, d, t, os⟩) : wpAny M A (checkBuiltinCall newId ⟨.ref C :: rest, kw⟩) Q E ⟨h, g, d, t, os⟩ := by
  have hcont : (Value.ref C :: bm).contains (.type B) = true := by rw [List.contains_cons, hT, F.hasB, Bool.or_true]
  have hstar := F.noStar
  simp only [checkBuiltinCall, F.newKind, F.newSplit, F.newRow]
  repeat (first | refine wpAny_loadPart_at hC ?_ | (refine wpAny_isSubtype_exc hC ?_; rw [hcont]) | refine wpAny_staticBase_exc hC ?_ | refine wpAny_madeBy_exc hC ?_ | simp only [bne_self_eq_false, Bool.false_eq_true, if_false] | wp_step)
  exact hq
theorem zy_new (F : ExcBaseFacts B newId initId bmB) (hT : ∀ X : String, bm.contains (.type X) = bmB.contains (.type X)) {rest : List Value} {kw : List (Str × Value)}
    (hC : h.get? C = some (excClassObj nm q C N bs bm hdct sn sub ab col dd k0 k1 k2 k3 k5 newId))
    (hq : R (.ok (.ret (.ref (h.objs.size + 1)))) ⟨(h.push { cls := .type "tuple", data := .seq rest.toArray }).push
      { cls := .ref C, data := .fields #[.ref h.objs.size, .none, .none, .none, .bool false, .none] }, g, d, t, os⟩) (hrest : rest.length ≤ sizeLine) :
    codeAny (model prog w) A (.builtin newId ⟨.ref C :: rest, kw⟩) R ⟨h, g, d, t, os⟩ := by
  have hends := F.ends
  have hcB : (Value.ref C :: bm).contains (.type B) = true := by rw [List.contains_cons, hT, F.hasB, Bool.or_true]
  have hcA : (Value.ref C :: bm).contains (.type "AttributeError") = false := by rw [List.contains_cons, hT, F.noAttr]; rfl
  have hcN : (Value.ref C :: bm).contains (.type "NameError") = false := by rw [List.contains_cons, hT, F.noName]; rfl
  refine codeAny_builtinAt F.entry ?_
  unfold Builtin.«BaseException.__new__»
  refine wpAt_bind ?_
  show wpAt _ _ _ (stack >>= _) _ _ _
  refine wpAt_bind (wpAt_stack fun p below => wpAt_of_wpAny ?_)
  wp_walk
  refine wpAt_of_wpAny ?_
  rw [F.owner]
  repeat (first | with_reducible refine wpAny_madeHere_exc F.canon hC ?_ | with_reducible refine wpAny_loadPart_at hC ?_ | (with_reducible refine wpAny_isSubtype_exc hC ?_; first | rw [hcB] | rw [hcA] | rw [hcN]) | wp_step)
  show R _ _
  rw [Heap.size_push]
  exact hq
theorem zy_check_type {M : Model} {rest : List Value} {kw : List (Str × Value)} {Q : Unit → Shared → Prop} (hC : h.get? C = some (excClassObj nm q C N bs bm hdct sn sub ab col dd k0 k1 k2 k3 k5 newId))
    (hq : Q () ⟨h, g, d, t, os⟩) : wpAny M A (checkBuiltinCall "type.__call__" ⟨.ref C :: rest, kw⟩) Q E ⟨h, g, d, t, os⟩ := by
  have f3 := tc_sub
  have hT : (⟨h, g, d, t, os⟩ : Shared).TypeIs (.ref C) "type" := ⟨_, hC, rfl⟩
  simp only [checkBuiltinCall, tc_kind, tc_split]
  repeat (any_goals (first | assumption | with_reducible refine wpAny_loadPart_at hC ?_ | with_reducible refine wpAny_onRaise ?_ | with_reducible refine wpAny_map ?_ | wp_step))
theorem zy_type_call (F : ExcBaseFacts B newId initId bmB) (hT : ∀ X : String, bm.contains (.type X) = bmB.contains (.type X)) {rest : List Value} {kw : List (Str × Value)} {fI : Addr} {Q : Fin → Shared → Prop}
    (hC : h.get? C = some (excClassObj nm q C N bs bm hdct sn sub ab col dd k0 k1 k2 k3 k5 newId))
    (hi : W.Looks (model prog w) h (typeLookup (.ref C) "__init__") (some (.ref fI))) (hb : ∀ self, W.Looks (model prog w) h (bindSpecial (.ref fI) self) (.ref fI, [self])) (hrest : rest.length ≤ sizeLine)
    (hq : codeAny (model prog w) A (.call (.ref fI) ⟨.ref (h.objs.size + 1) :: rest, kw⟩)
      (fun r s' => match r with | .ok (.ret v) => v = .none ∧ Q (.done (.ret (.ref (h.objs.size + 1)))) s' | .ok _ => False | .error e => E e s')
      ⟨(h.push (W.kdv_tup rest)).push (excO C h.objs.size), g, d, t, os⟩) :
    wpAny (model prog w) A (Builtin.«type.__call__» ⟨.ref C :: rest, kw⟩) Q E ⟨h, g, d, t, os⟩ := by
  repeat (first | with_reducible refine wpAny_loadPart_at hC ?_ | with_reducible refine wpAny_madeBy_exc hC ?_ | wp_step)
  refine codeAny_call_builtin_code (Code.quiet_builtin _ F.quiet) (zy_check_new F hT hC ?_)
  refine zy_new F hT hC ?_ hrest
  show wpAny _ _ _ _ _ _
  have k : ∀ b o, h.get? b = some o → ((h.push (W.kdv_tup rest)).push (excO C h.objs.size)).get? b = some o := fun b o e => Heap.get?_push_of_some _ (Heap.get?_push_of_some _ e)
  have hC₁ := k _ _ hC
  have hget : ((h.push (W.kdv_tup rest)).push (excO C h.objs.size)).get? (h.objs.size + 1) = some (excO C h.objs.size) := by heap_get
  have hcC : (Value.ref C :: bm).contains (.ref C) = true := by simp
  have i1 := hi.keeps k
  have b1 := (hb (.ref (h.objs.size + 1))).keeps k
  unfold isInstance
  repeat (first | with_reducible refine wpAny_loadPart_at hget ?_ | (with_reducible refine wpAny_isSubtype_exc hC₁ ?_; rw [hcC]) | wp_step)
  show wpAny _ _ (typeLookup (.ref C) _) _ _ _
  refine i1.at ?_
  refine wpAny_holding (wpAny_bind (b1.at ?_))
  refine wpAny_bind (wpAny_call (codeAny_mono hq fun r s' z => ?_))
  rcases r with e | (v | _ | _ | _) <;> first | exact z | exact z.elim | skip
  obtain ⟨rfl, z⟩ := z
  first
    | exact wpAny_pure (wpAny_pure z)
    | (wp_walk; exact z)
theorem zy_call_own (F : ExcBaseFacts B newId initId bmB) (hT : ∀ X : String, bm.contains (.type X) = bmB.contains (.type X)) {rest : List Value} {kw : List (Str × Value)} {fI : Addr}
    (hC : h.get? C = some (excClassObj nm q C N bs bm hdct sn sub ab col dd k0 k1 k2 k3 k5 newId))
    (hi : W.Looks (model prog w) h (typeLookup (.ref C) "__init__") (some (.ref fI))) (hb : ∀ self, W.Looks (model prog w) h (bindSpecial (.ref fI) self) (.ref fI, [self])) (hrest : rest.length ≤ sizeLine)
    (hq : codeAny (model prog w) (A.under (.builtin "type.__call__" ⟨.ref C :: rest, kw⟩)) (.call (.ref fI) ⟨.ref (h.objs.size + 1) :: rest, kw⟩) (W.InitBack (h.objs.size + 1) R)
      ⟨(h.push (W.kdv_tup rest)).push (excO C h.objs.size), g, d, t, os⟩) :
    codeAny (model prog w) A (.call (.ref C) ⟨rest, kw⟩) R ⟨h, g, d, t, os⟩ := by
  have f1 := tc_lookup
  have f2 := tc_bind (.ref C)
  have hTy : (⟨h, g, d, t, os⟩ : Shared).TypeIs (.ref C) "type" := ⟨_, hC, rfl⟩
  refine codeAny_of_tree ?_
  show wpAny _ _ (callAny (.ref C) _) _ _ _
  repeat (any_goals (first | assumption | with_reducible refine wpAny_loadPart_at hC ?_ | wp_step))
  refine ⟨rfl, ?_⟩
  refine codeAny_call_builtin_at (Code.quiet_builtin _ (by decide +kernel)) entry_typeCall (zy_check_type hC (zy_type_call F hT hC hi hb hrest ?_))
  refine codeAny_mono hq fun r s' z => ?_
  rcases r with e | (v | _ | _ | _) <;> exact z
end
end PySem.HandSPX
namespace Z
open PySem PySem.Spec L2
/-- a class whose instances are made with keywords alone: ix takes the parameters' order to the keywords', jx back -/
structure XMkK (P : Program) (w : World) (K : PySem.W.Frag) (mg : Str → Option Value) (base : Heap) (c : Str) (C : Addr) (k : Nat) (tag : Str) (flds ks : List Str) (ix jx : List Nat) : Prop where
  mk0 : XMk P w K mg base c C k tag flds
  ex : L2.Mod K mg base → ∃ (B newId initId : String) (bmB : List Value) (fI : Addr), PySem.ExcBaseFacts B newId initId bmB ∧ PySem.W.excInitIn K C bmB newId = true ∧ PySem.W.findIn K (.ref C) "__init__" = some (some (.ref fI)) ∧ PySem.W.typeIn K (.ref fI) = some (.type "function") ∧
    ZX.InitOkA (fun us => ⟨us.take 1, ks.zip (pickL ix (us.drop 1))⟩) P w base k fI C (fun vs => if vs.length = flds.length then some (excFs tag flds vs) else none)
  inv : ∀ ws : List Value, ws.length = ks.length → pickL ix (pickL jx ws) = ws
  len : ∀ ws : List Value, ws.length = ks.length → (pickL jx ws).length = flds.length
section
variable {X : Cx} {pins : List (Addr × Obj)} {σ : L2.St} {H : Hp} {s : Shared}
theorem exc_coreK {c : Str} {C : Addr} {k : Nat} {tag : Str} {flds ks : List Str} {ix jx : List Nat} {ws : List Value} {zs : List V} {Q : Value → Shared → Prop} (M : XMkK X.prog X.w X.K X.mg X.base c C k tag flds ks ix jx) (hr : Room (k + 1) X.A) (I : Inv X pins σ H s) (r : Vals zs ws) (hl : ws.length = ks.length) (hz : flds.length ≤ 100)
    (h : ∀ a d h' tk' t' m, (∀ b o, s.heap.get? b = some o → h'.get? b = some o) → s.heap.objs.size ≤ a → s.heap.objs.size ≤ d → a ≠ d → h'.get? a = some (ZX.exd C t' (some d)) → h'.Ns1 d m → (∀ g, RelO ((excFs tag flds (pickL jx zs)).lookup g) (m g)) → Q (.ref a) { s with heap := h', toks := tk' }) :
    wpAny (model X.prog X.w) X.A (call (.ref C) [] (ks.zip ws)) Q X.xe s := by
  obtain ⟨B, newId, initId, bmB, fI, FB, q, iC, tI, F⟩ := M.ex I.ok.mod
  obtain ⟨nm, N', qn, bs, bm, hdct, sn, sub, ab, col, dd, k0, k1, k2, k3, k5, hC, hT⟩ := PySem.W.excInit_of I.kIn q
  obtain ⟨hp, g, dr, tk, os⟩ := s
  have r2 := pickL_vals r jx
  have hlen := M.len ws hl
  have hlv : (pickL jx zs).length = flds.length := by rw [r2.length]; exact hlen
  have kk : ∀ b o, hp.get? b = some o → ((hp.push (PySem.W.kdv_tup [])).push (PySem.HandSPX.excO C hp.objs.size)).get? b = some o := fun b o e => Heap.get?_push_of_some _ (Heap.get?_push_of_some _ e)
  have hget : ((hp.push (PySem.W.kdv_tup [])).push (PySem.HandSPX.excO C hp.objs.size)).get? (hp.objs.size + 1) = some (PySem.HandSPX.excO C hp.objs.size) := by heap_get
  have hsz : hp.objs.size + 1 + 1 = ((hp.push (PySem.W.kdv_tup [])).push (PySem.HandSPX.excO C hp.objs.size)).objs.size := by rw [Heap.size_push, Heap.size_push]
  have hbx : X.base.get? (hp.objs.size + 1) = none := by
    cases e : X.base.get? (hp.objs.size + 1) with
    | none => rfl
    | some o => exact absurd (Heap.lt_size (I.bk _ _ e)) (Nat.not_lt.mpr (Nat.le_succ _))
  have dep := (hr.make C [] (ks.zip ws)).dp
  refine wpAny_call (PySem.HandSPX.zy_call_own FB hT hC (PySem.W.looks_findIn I.kIn iC) (fun self => PySem.W.bind_fn I.kIn self tI) (by rw [List.length_nil]; omega) ?_)
  have e1 : (⟨[.ref (hp.objs.size + 1)], ks.zip ws⟩ : Args) = (fun us : List Value => (⟨us.take 1, ks.zip (pickL ix (us.drop 1))⟩ : Args)) (.ref (hp.objs.size + 1) :: pickL jx ws) := by
    show _ = (⟨[.ref (hp.objs.size + 1)], ks.zip (pickL ix (pickL jx ws))⟩ : Args)
    rw [M.inv ws hl]
  rw [e1]
  refine F _ _ (hp.objs.size + 1) hp.objs.size (pickL jx ws) (pickL jx zs) _ _ (by omega) (fun b o e => kk b o (I.bk b o e)) hbx hget r2 (if_pos hlv) fun h' tk' t' dx m kq hdx hx hn rel => ?_
  refine ⟨rfl, ?_⟩
  have kold : ∀ b o, hp.get? b = some o → h'.get? b = some o := fun b o e => kq b o (Nat.ne_of_lt (Nat.lt_trans (Heap.lt_size e) (Nat.lt_succ_self _))) (kk b o e)
  have hdx' : hp.objs.size + 1 + 1 ≤ dx := by rw [hsz]; exact hdx
  exact h _ dx h' tk' t' m kold (Nat.le_succ _) (Nat.le_of_lt (Nat.lt_of_lt_of_le (Nat.lt_succ_of_lt (Nat.lt_succ_self _)) hdx')) (Nat.ne_of_lt hdx') hx hn rel
theorem run_excK {c : Str} {C : Addr} {k : Nat} {tag : Str} {flds ks : List Str} {ix jx : List Nat} {ws : List Value} {zs : List V} {Q : Value → Shared → Prop} (M : XMkK X.prog X.w X.K X.mg X.base c C k tag flds ks ix jx) (hr : Room (k + 1) X.A) (I : Inv X pins σ H s) (r : Vals zs ws) (hl : ws.length = ks.length) (hz : flds.length ≤ 100)
    (h : ∀ a d s', H a = none → H d = none → a ≠ d → Inv X pins σ (upd (upd H d (.xd (excFs tag flds (pickL jx zs)))) a (ExD a C d)) s' → Q (.ref a) s') :
    wpAny (model X.prog X.w) X.A (call (.ref C) [] (ks.zip ws)) Q X.xe s := by
  refine exc_coreK M hr I r hl hz fun a d h' tk' t' m kold ha hd ne hx hn rel => ?_
  have gd : ∃ o, h'.get? d = some o := by
    obtain ⟨o, es, ep, e, _⟩ := hn
    exact ⟨o, e⟩
  exact h a d _ (I.hok.fresh ha) (I.hok.fresh hd) ne (inv_two (t' := tk') (oa := ExD a C d) (od := .xd (excFs tag flds (pickL jx zs))) I kold ha hd ne ⟨⟨_, _, hx, ⟨rfl, rfl⟩, rfl⟩, ⟨_, hx⟩, fun h1 h2 ⟨oe, ws, e, z⟩ st => ⟨oe, ws, st _ e, z⟩⟩ ⟨m, hn, rel⟩ ⟨_, hx⟩ gd)
end
/-- C(k = v, ..) on data -/
def excKS (c tag : Str) (flds : List Str) (jx : List Nat) : SemL := fun ds S => excS c tag flds (pickL jx ds) S
section
variable {X : Cx} {W : WX} {k : Nat} {C : Addr} {x tag : Str} {flds ks : List Str} {ix jx : List Nat} {p pos : Pos} {kws : List Keyword} {fk : AX}
theorem r_excK0 {m : Nat} (M : XMkK X.prog X.w X.K X.mg X.base x C k tag flds ks ix jx) (hr : Room (k + 1) X.A) (hz : flds.length ≤ 100)
    (hkw : EK X W kws fk) (hlen : ks.length = m := by rfl) (hg : Gl X x := by rfl) (hall : (backToKw pos (keywordEach kws X.env)).all (·.1.isSome) = true := by rfl) (hks : (backToKw pos (keywordEach kws X.env)).filterMap (·.1) = ks := by rfl) (hdb : (x == ("__debug__" : Str)) = false := by decide)
    (hpl : ((backTo pos (starEach [] X.env)).any (·.1) || (backToKw pos (keywordEach kws X.env)).any (·.1.isNone)) = false := by rfl) :
    E X W (.Call (.Name x p) [] kws pos) (eCallK 0 m (excKS x tag flds jx) aNil fk) := by
  subst hlen
  refine ⟨fun pins s σ H Q I h => ?_⟩
  obtain ⟨ρ, S, sl, w, rs, q⟩ := h
  refine wpAny_Call_Name_kw (ld_glob I hg M.mk0.hm ?_ hdb)
  refine PySem.W.callWith_KW0 (h₀ := X.base) I.ok.mod.kin M.mk0.keep hall ?_ hpl
  refine thn (hkw.run pos pins s σ H _ I ⟨ρ, S, sl, w, rs, PostA.bindE q⟩) fun ws s2 ⟨zs, H2, I2, rz, ρ2, S2, es', x2, w2, re, _, p2⟩ => ⟨I2.kIn, ?_⟩
  rw [hks]
  split at p2
  · rename_i hl
    have hws : ws.length = ks.length := by rw [← rz.length, ← re.len, hl.2]
    have rp := pickL_rep re jx
    have p2 : PostE X.K X.mg (WE W σ) ρ2 H2 Q (excS x tag flds (pickL jx es') S2) := p2
    unfold excS at p2
    split at p2
    · rename_i hl2
      exact run_excK M hr I2 rz hws hz fun a d s' na nd ne J => ⟨.ref a, _, J, rfl, post_exc M.mk0.hm w2 rp hl2 na nd ne p2⟩
    · exact p2.elim
  · exact p2.elim
end
end Z
/-! ZY9: tables for isinstance of held exceptions. -/
namespace Z
open PySem PySem.Spec L2
def excB (K : PySem.W.Frag) (D : Addr) : Bool :=
  decide (PySem.W.findIn K (.ref D) "__getattribute__" = some (some (.builtin "BaseException.__getattribute__"))) && (decide (PySem.W.findIn K (.ref D) "__getattr__" = some none) && (decide (PySem.W.subIn K (.ref D) (.type "BaseException") = some true) && (PySem.W.hasDictIn K D &&
  (decide (PySem.W.findIn K (.ref D) "__class__" = some (some (.builtin "object.__class__"))) && decide (PySem.W.mroIn K D (.type "object") = some true)))))
theorem excB_ok {K : PySem.W.Frag} {D : Addr} (h : excB K D = true) : ExcC K D := by
  unfold excB at h
  simp only [Bool.and_eq_true, decide_eq_true_eq] at h
  obtain ⟨h1, h2, h3, h4, h5, h6⟩ := h
  exact ⟨h1, h2, h3, h4, h5, cls_get K, cls_takes K, h6⟩
def kxB (K : PySem.W.Frag) (u : Value) (l : List (Addr × Bool)) : Bool := l.all fun p => decide (PySem.W.kitOne K (.ref p.1) u = some p.2)
/-- the classes of exceptions, where they stand -/
def XsOk (K : PySem.W.Frag) (mg : Str → Option Value) (xs : List (Str × Addr)) : Prop := ∀ p ∈ xs, mg p.1 = some (.ref p.2) ∧ ExcC K p.2
theorem xs_nil {K : PySem.W.Frag} {mg : Str → Option Value} : XsOk K mg [] := fun p h => by cases h
theorem xs_cons {K : PySem.W.Frag} {mg : Str → Option Value} {c : Str} {C : Addr} {xs : List (Str × Addr)} (h : mg c = some (.ref C)) (hx : excB K C = true) (r : XsOk K mg xs) : XsOk K mg ((c, C) :: xs) := fun p hp => by
  rcases List.mem_cons.mp hp with rfl | hp
  · exact ⟨h, excB_ok hx⟩
  · exact r p hp
def pickN (b : Bool) : List (Str × Addr) → List Bool → List Str
  | p :: xs, c :: bs => if c = b then p.1 :: pickN b xs bs else pickN b xs bs
  | _, _ => []
theorem pickN_mem {b : Bool} {c : Str} : ∀ {xs : List (Str × Addr)} {bs : List Bool}, c ∈ pickN b xs bs → ∃ C, ((c, C), b) ∈ xs.zip bs
  | [], [], h => by cases h
  | [], _ :: _, h => by cases h
  | _ :: _, [], h => by cases h
  | p :: xs, d :: bs, h => by
    unfold pickN at h
    split at h
    · rename_i e
      subst e
      rcases List.mem_cons.mp h with rfl | h
      · exact ⟨p.2, by simp⟩
      · obtain ⟨C, hC⟩ := pickN_mem h
        exact ⟨C, by rw [List.zip_cons_cons]; exact List.mem_cons_of_mem _ hC⟩
    · obtain ⟨C, hC⟩ := pickN_mem h
      exact ⟨C, by rw [List.zip_cons_cons]; exact List.mem_cons_of_mem _ hC⟩
theorem isx1_of {K : PySem.W.Frag} {mg : Str → Option Value} {D : Str ⊕ String} {xs : List (Str × Addr)} {bs : List Bool} {yes no : List Str} {u : Value} (hx : XsOk K mg xs) (hu : clsVal mg D = some u) (hk : kxB K u ((xs.map (·.2)).zip bs) = true) (hy : pickN true xs bs = yes) (hn : pickN false xs bs = no) : IsX1 K mg D yes no := by
  intro u' hu'
  obtain rfl : u = u' := by rw [hu] at hu'; exact Option.some.inj hu'
  have go : ∀ (b : Bool), ∀ c ∈ pickN b xs bs, ∀ C, mg c = some (.ref C) → ExcC K C ∧ PySem.W.kitOne K (.ref C) u = some b := by
    intro b c hc C hC
    obtain ⟨C', h⟩ := pickN_mem hc
    obtain ⟨h1, h2⟩ := hx _ (List.of_mem_zip h).1
    have e : C' = C := by
      have h1 : mg c = some (.ref C') := h1
      rw [hC] at h1
      exact (Value.ref.inj (Option.some.inj h1)).symm
    subst e
    refine ⟨h2, ?_⟩
    have h3 : (C', b) ∈ (xs.map (·.2)).zip bs := by
      rw [List.zip_map_left]
      exact List.mem_map.mpr ⟨_, h, rfl⟩
    exact of_decide_eq_true (List.all_eq_true.mp hk _ h3)
  subst hy hn
  exact ⟨go true, go false⟩
end Z
namespace Z
open PySem PySem.Spec L2
/-- what the walk asks of one exception class, its own class or one over another one -/
structure XH2 (K : PySem.W.Frag) (C Cb ai ab : Addr) (bm : List Value) (R nw it : String) (nx : Value) (fs : List Str) : Prop where
  kc : PySem.W.keepIn K (.ref C) = true
  xi : PySem.W.excInitIn K C bm nw = true
  xo : PySem.W.excOver K C bm = true
  xk : (PySem.W.clsIn K C).isSome = true
  xs : PySem.W.findIn K (.ref C) "__setattr__" = some (some (.builtin "object.__setattr__"))
  xD : PySem.W.hasDictIn K C = true
  xI : PySem.W.findIn K (.ref C) "__init__" = some (some (.ref ai))
  xt : PySem.W.typeIn K (.ref ai) = some (.type "function")
  xB : PySem.W.subIn K (.ref C) (.type "BaseException") = some true
  xR : PySem.W.subIn K (.ref C) (.type R) = some true
  xT : PySem.W.typeIn K (.ref C) = some (.type "type")
  xm1 : PySem.W.mroIn K C (.ref C) = some true
  xu1 : PySem.W.ks_superIn K C C "__init__" = some (some nx)
  xm2 : PySem.W.mroIn K C (.ref Cb) = some true
  xu2 : PySem.W.ks_superIn K C Cb "__init__" = some (some (.builtin it))
  xg : (K.lookup ab).map (·.cls) = some (.type "function")
  xh : PySem.W.fnIn K ab = true
  xe : excB K C = true
  xa : (fs.all fun f => decide (PySem.W.findIn K (.ref C) f = some none)) = true
def xh2B (K : PySem.W.Frag) (C Cb ai ab : Addr) (bm : List Value) (R nw it : String) (nx : Value) (fs : List Str) : Bool :=
  PySem.W.keepIn K (.ref C) && (PySem.W.excInitIn K C bm nw && (PySem.W.excOver K C bm && ((PySem.W.clsIn K C).isSome && (decide (PySem.W.findIn K (.ref C) "__setattr__" = some (some (.builtin "object.__setattr__"))) && (PySem.W.hasDictIn K C &&
  (decide (PySem.W.findIn K (.ref C) "__init__" = some (some (.ref ai))) && (decide (PySem.W.typeIn K (.ref ai) = some (.type "function")) && (decide (PySem.W.subIn K (.ref C) (.type "BaseException") = some true) && (decide (PySem.W.subIn K (.ref C) (.type R) = some true) &&
  (decide (PySem.W.typeIn K (.ref C) = some (.type "type")) && (decide (PySem.W.mroIn K C (.ref C) = some true) && (decide (PySem.W.ks_superIn K C C "__init__" = some (some nx)) && (decide (PySem.W.mroIn K C (.ref Cb) = some true) &&
  (decide (PySem.W.ks_superIn K C Cb "__init__" = some (some (.builtin it))) && (decide ((K.lookup ab).map (·.cls) = some (.type "function")) && (PySem.W.fnIn K ab && (excB K C && fs.all fun f => decide (PySem.W.findIn K (.ref C) f = some none))))))))))))))))))
theorem xh2_ok {K : PySem.W.Frag} {C Cb ai ab : Addr} {bm : List Value} {R nw it : String} {nx : Value} {fs : List Str} (h : xh2B K C Cb ai ab bm R nw it nx fs = true) : XH2 K C Cb ai ab bm R nw it nx fs := by
  unfold xh2B at h
  obtain ⟨h1, h⟩ := Bool.and_eq_true_iff.mp h
  obtain ⟨h2, h⟩ := Bool.and_eq_true_iff.mp h
  obtain ⟨h3, h⟩ := Bool.and_eq_true_iff.mp h
  obtain ⟨h4, h⟩ := Bool.and_eq_true_iff.mp h
  obtain ⟨h5, h⟩ := Bool.and_eq_true_iff.mp h
  obtain ⟨h6, h⟩ := Bool.and_eq_true_iff.mp h
  obtain ⟨h7, h⟩ := Bool.and_eq_true_iff.mp h
  obtain ⟨h8, h⟩ := Bool.and_eq_true_iff.mp h
  obtain ⟨h9, h⟩ := Bool.and_eq_true_iff.mp h
  obtain ⟨h10, h⟩ := Bool.and_eq_true_iff.mp h
  obtain ⟨h11, h⟩ := Bool.and_eq_true_iff.mp h
  obtain ⟨h12, h⟩ := Bool.and_eq_true_iff.mp h
  obtain ⟨h13, h⟩ := Bool.and_eq_true_iff.mp h
  obtain ⟨h14, h⟩ := Bool.and_eq_true_iff.mp h
  obtain ⟨h15, h⟩ := Bool.and_eq_true_iff.mp h
  obtain ⟨h16, h⟩ := Bool.and_eq_true_iff.mp h
  obtain ⟨h17, h⟩ := Bool.and_eq_true_iff.mp h
  obtain ⟨h18, h⟩ := Bool.and_eq_true_iff.mp h
  exact ⟨h1, h2, h3, h4, of_decide_eq_true h5, h6, of_decide_eq_true h7, of_decide_eq_true h8, of_decide_eq_true h9, of_decide_eq_true h10, of_decide_eq_true h11, of_decide_eq_true h12, of_decide_eq_true h13, of_decide_eq_true h14, of_decide_eq_true h15, of_decide_eq_true h16, h17, h18, h⟩
theorem XH2.at_ {K : PySem.W.Frag} {C Cb ai ab : Addr} {bm : List Value} {R nw it : String} {nx : Value} {fs : List Str} (h : XH2 K C Cb ai ab bm R nw it nx fs) {f : Str} (hf : fs.contains f = true) : PySem.W.findIn K (.ref C) f = some none :=
  of_decide_eq_true (List.all_eq_true.mp h.xa f (List.contains_iff_mem.mp hf))
theorem XH2.xf {K : PySem.W.Frag} {C Cb ai ab : Addr} {bm : List Value} {R nw it : String} {nx : Value} {fs : List Str} (h : XH2 K C Cb ai ab bm R nw it nx fs) : XfC K C := by
  have := excB_ok h.xe
  exact ⟨this.hg, this.hk, this.hs, this.hd⟩
end Z
namespace Z
open PySem PySem.Spec L2 PyProof.Rows
theorem supfn_of {prog : Program} {K : PySem.W.Frag} {f D cda cc : Addr} {qual : Str} {params : Arguments} {body : List Stmt} {scope : Scope} {oc kV doc pm ct ccl cl : Value} {od an cdd cld : Option Addr} {osl ccs csl : Array (Option Value)} {vs : Array Value} {file : Str} {tf : Tok} {cdD : ClassData}
    (xl : K.lookup f = some ⟨oc, od, .func (PySem.W.ksFn "__init__" qual params body scope .none kV doc pm an (.ref cda) ct cc), osl⟩) (xc : PySem.W.codeIn K (.ref cda) qual = true)
    (xv : K.lookup cda = some ⟨ccl, cdd, .fields vs, ccs⟩) (xw : vs[2]? = some (.str file tf)) (xf : ((prog.main.file : Str) == file) = true) (xe : K.lookup cc = some ⟨cl, cld, .cell (some (.ref D)), csl⟩)
    (xd : PySem.W.clsIn K D = some cdD) (xg : (K.lookup f).map (·.cls) = some (.type "function")) : ZX.SupFn prog K f D qual params body scope :=
  ⟨⟨oc, od, "__init__", kV, doc, pm, an, cda, cc, ct, osl, xl, xc, ⟨_, _, _, _, _, _, xv, xw, xf⟩, ⟨_, _, _, xe⟩⟩, ⟨_, xd⟩, xg⟩
end Z
/-! ZS: texts of numbers. -/
namespace Z
open PySem PySem.Spec L2
/-- the signs of a number's text -/
def dg (i : Int) : List Nat := (Str.ofString (toString i)).cps.toList
@[simp] theorem str_dg (i : Int) : Str.ofString (toString i) = tx (dg i) := lit_tx _
def isS (d : D) (k : List Nat → Prop) : Prop := match d with
  | .str y => k y.cps.toList
  | _ => False
@[simp] theorem isS_tx {l : List Nat} {k : List Nat → Prop} : isS (.str (tx l)) k = k l := by simp [isS, tx]
section
variable {sl : Sl} {S : Store} {P X : D → Store → Prop}
theorem empty_tx : Str.empty = tx [] := rfl
@[simp] theorem w_eJoin {fs : List EX} : We (eJoin fs sl S) P X = We (joinGo fs (tx []) sl S) P X := by unfold eJoin; rw [empty_tx]
@[simp] theorem lit_slash : Str.ofString "/" = tx [47] := by decide +kernel
def lR : List Nat := [82, 97, 116, 105, 111, 40]
@[simp] theorem lit_R : Str.ofString "Ratio(" = tx lR := by decide +kernel
@[simp] theorem lit_E : Str.ofString ")" = tx [41] := by decide +kernel
/-- _law_field -/
noncomputable def m__law_field : SX :=
  (sSeq (sIf (bVal (eBin inX (eXat "tag" ["InvalidRatio"] (eName 0)) (eArgs semTup (aCons (eLit (.str "InvalidRatio")) (aCons (eLit (.str "InvalidWorld")) (aCons (eLit (.str "InvalidElement")) (aCons (eLit (.str "InvalidStep")) (aCons (eLit (.str "InvalidLimit")) aNil))))))))
  (sRet (eXat "value" ["InvalidRatio"] (eName 0)))
  sNil)
  (sSeq (sIf (bVal (eBin inX (eXat "tag" ["InvalidRatio"] (eName 0)) (eArgs semTup (aCons (eLit (.str "InvalidName")) (aCons (eLit (.str "WrongKind")) (aCons (eLit (.str "CircularName")) (aCons (eLit (.str "UnknownName")) aNil)))))))
  (sRet eBad)
  sNil)
  (sSeq (sIf (bVal (eBin inX (eXat "tag" ["InvalidRatio"] (eName 0)) (eArgs semTup (aCons (eLit (.str "InvalidPlan")) (aCons (eLit (.str "EmptyLoop")) aNil)))))
  (sRet eBad)
  sNil)
  (sSeq (sIf (bVal (eBin inX (eXat "tag" ["InvalidRatio"] (eName 0)) (eArgs semTup (aCons (eLit (.str "TooMany")) (aCons (eLit (.str "CapacityExceeded")) aNil)))))
  (sRet eBad)
  sNil)
  (sSeq (sIf (bVal (eBin inX (eXat "tag" ["InvalidRatio"] (eName 0)) (eArgs semTup (aCons (eLit (.str "InvalidText")) (aCons (eLit (.str "InvalidProgram")) aNil)))))
  (sRet (eIf (bVal (eBin (eqD false) (eXat "tag" ["InvalidRatio"] (eName 0)) (eLit (.str "InvalidText")))) eBad eBad))
  sNil)
  (sSeq (sIf (bVal (eBin inX (eXat "tag" ["InvalidRatio"] (eName 0)) (eArgs semTup (aCons (eLit (.str "InUse")) (aCons (eLit (.str "Breaks")) aNil)))))
  (sRet (eIf (bVal (eBin (eqD false) (eXat "tag" ["InvalidRatio"] (eName 0)) (eLit (.str "InUse")))) eBad (eArgs semTup (aCons eBad (aCons eBad aNil)))))
  sNil)
  (sSeq (sIf (bVal (eBin inX (eXat "tag" ["InvalidRatio"] (eName 0)) (eArgs semTup (aCons (eLit (.str "InvalidCommand")) (aCons (eLit (.str "InvalidPage")) aNil)))))
  (sRet (eIf (bVal (eBin (eqD false) (eXat "tag" ["InvalidRatio"] (eName 0)) (eLit (.str "InvalidCommand")))) eBad eBad))
  sNil)
  (sRet (eIf (bVal (eBin (eqD false) (eXat "tag" ["InvalidRatio"] (eName 0)) (eLit (.str "InvalidReader")))) eBad (eLit .non))))))))))
noncomputable def f__law_field : SemL := arity 1 (defS 1 m__law_field)
variable {p q : Int} {n : Nat}
/-! ### exactness -/
/-! ### askers, lambdas -/
variable {T : LamText} {caps : List D} {l : SemL} {v : D} {L : LamText → Option SemL}
theorem same_eq {d : D} (h : Z.plain 11 d) : f__law_same [d, d] S = .ok (.bl true) S := same_refl 11 d S h
end
end Z
namespace K01
open PySem PySem.Spec L2 Z PyProof.Rows
def top (i : Nat) : Stmt := PySem.Challenge.pw_waysagree_k01_errors_by_themselves.main.body.getD i (.Pass ⟨0, 0, 0, 0⟩)
abbrev s__law_all : Stmt := top 32
abbrev s__law_bag : Stmt := top 26
abbrev s__law_field : Stmt := top 30
abbrev s__law_flags : Stmt := top 31
abbrev s__law_pick : Stmt := top 27
abbrev s__law_of : Stmt := top 28
abbrev s__law_same : Stmt := top 29
abbrev s_law : Stmt := top 33
/-- _law_all -/
noncomputable def m__law_all : SX :=
  (sSeq (sAsg (eArgs semLst (aCons (eArgs (excS "InvalidRatio" "InvalidRatio" ["value"]) (aCons (eBin ixX (eName 0) (eLit (.int 0))) aNil)) (aCons (eCallK 0 1 (excKS "InvalidWorld" "InvalidWorld" ["value"] [0]) aNil (aCons (eBin ixX (eName 0) (eLit (.int 1))) aNil)) (aCons (eArgs (excS "InvalidElement" "InvalidElement" ["value"]) (aCons (eBin ixX (eName 0) (eLit (.int 2))) aNil)) (aCons (eCallK 0 1 (excKS "InvalidText" "InvalidText" ["given"] [0]) aNil (aCons (eBin ixX (eName 0) (eLit (.int 0))) aNil)) aNil))))) (gSet 1))
  (sSeq (sAsg (eBin addX (eName 1) (eArgs semLst (aCons (eArgs (excS "InvalidProgram" "InvalidProgram" ["part"]) (aCons (eBin ixX (eName 0) (eLit (.int 1))) aNil)) (aCons (eCallK 0 1 (excKS "InvalidPlan" "InvalidPlan" ["path"] [0]) aNil (aCons (eBin ixX (eName 0) (eLit (.int 2))) aNil)) aNil)))) (gSet 1))
  (sSeq (sAsg (eBin addX (eName 1) (eArgs semLst (aCons (eArgs (excS "EmptyLoop" "EmptyLoop" ["path"]) (aCons (eBin ixX (eName 0) (eLit (.int 0))) aNil)) (aCons (eArgs (excS "InvalidStep" "InvalidStep" ["value"]) (aCons (eBin ixX (eName 0) (eLit (.int 1))) aNil)) aNil)))) (gSet 1))
  (sSeq (sAsg (eBin addX (eName 1) (eArgs semLst (aCons (eCallK 0 1 (excKS "InvalidReader" "InvalidReader" ["place"] [0]) aNil (aCons (eBin ixX (eName 0) (eLit (.int 2))) aNil)) (aCons (eArgs (excS "WorldsDiffer" "WorldsDiffer" []) aNil) (aCons (eCallK 0 1 (excKS "TooMany" "TooMany" ["limit"] [0]) aNil (aCons (eBin ixX (eName 0) (eLit (.int 0))) aNil)) (aCons (eArgs (excS "InvalidName" "InvalidName" ["name"]) (aCons (eBin ixX (eName 0) (eLit (.int 1))) aNil)) aNil)))))) (gSet 1))
  (sSeq (sAsg (eBin addX (eName 1) (eArgs semLst (aCons (eCallK 0 1 (excKS "WrongKind" "WrongKind" ["name"] [0]) aNil (aCons (eBin ixX (eName 0) (eLit (.int 2))) aNil)) (aCons (eArgs (excS "CircularName" "CircularName" ["name"]) (aCons (eBin ixX (eName 0) (eLit (.int 0))) aNil)) (aCons (eCallK 0 1 (excKS "InUse" "InUse" ["user"] [0]) aNil (aCons (eBin ixX (eName 0) (eLit (.int 1))) aNil)) (aCons (eArgs (excS "Breaks" "Breaks" ["user", "word"]) (aCons (eBin ixX (eName 0) (eLit (.int 2))) (aCons (eBin ixX (eName 0) (eLit (.int 0))) aNil))) aNil)))))) (gSet 1))
  (sSeq (sAsg (eBin addX (eName 1) (eArgs semLst (aCons (eArgs (excS "CapacityExceeded" "CapacityExceeded" ["limit"]) (aCons (eBin ixX (eName 0) (eLit (.int 1))) aNil)) (aCons (eArgs (excS "InvalidLimit" "InvalidLimit" ["value"]) (aCons (eBin ixX (eName 0) (eLit (.int 2))) aNil)) (aCons (eCallK 0 1 (excKS "InvalidCommand" "InvalidCommand" ["word"] [0]) aNil (aCons (eBin ixX (eName 0) (eLit (.int 0))) aNil)) aNil))))) (gSet 1))
  (sRet (eBin addX (eName 1) (eArgs semLst (aCons (eCallK 0 1 (excKS "InvalidPage" "InvalidPage" ["line"] [0]) aNil (aCons (eBin ixX (eName 0) (eLit (.int 1))) aNil)) (aCons (eArgs (excS "UnknownName" "UnknownName" ["name"]) (aCons (eBin ixX (eName 0) (eLit (.int 2))) aNil)) (aCons (eArgs (excS "NothingLeft" "NothingLeft" []) aNil) aNil))))))))))))
noncomputable def f__law_all : SemL := arity 1 (defS 2 m__law_all)
/-- _law_field -/
noncomputable def m__law_field : SX :=
  (sSeq (sIf (bVal (eBin inX (eXat "tag" ["InvalidRatio", "InvalidWorld", "InvalidElement", "InvalidText", "InvalidProgram", "InvalidPlan", "EmptyLoop", "InvalidStep", "InvalidReader", "WorldsDiffer", "TooMany", "InvalidName", "WrongKind", "CircularName", "InUse", "Breaks", "CapacityExceeded", "InvalidLimit", "InvalidCommand", "InvalidPage", "UnknownName", "NothingLeft"] (eName 0)) (eArgs semTup (aCons (eLit (.str "InvalidRatio")) (aCons (eLit (.str "InvalidWorld")) (aCons (eLit (.str "InvalidElement")) (aCons (eLit (.str "InvalidStep")) (aCons (eLit (.str "InvalidLimit")) aNil))))))))
  (sRet (eXat "value" ["InvalidRatio", "InvalidWorld", "InvalidElement", "InvalidStep", "InvalidLimit"] (eName 0)))
  sNil)
  (sSeq (sIf (bVal (eBin inX (eXat "tag" ["InvalidRatio", "InvalidWorld", "InvalidElement", "InvalidText", "InvalidProgram", "InvalidPlan", "EmptyLoop", "InvalidStep", "InvalidReader", "WorldsDiffer", "TooMany", "InvalidName", "WrongKind", "CircularName", "InUse", "Breaks", "CapacityExceeded", "InvalidLimit", "InvalidCommand", "InvalidPage", "UnknownName", "NothingLeft"] (eName 0)) (eArgs semTup (aCons (eLit (.str "InvalidName")) (aCons (eLit (.str "WrongKind")) (aCons (eLit (.str "CircularName")) (aCons (eLit (.str "UnknownName")) aNil)))))))
  (sRet (eXat "name" ["InvalidName", "WrongKind", "CircularName", "UnknownName"] (eName 0)))
  sNil)
  (sSeq (sIf (bVal (eBin inX (eXat "tag" ["InvalidRatio", "InvalidWorld", "InvalidElement", "InvalidText", "InvalidProgram", "InvalidPlan", "EmptyLoop", "InvalidStep", "InvalidReader", "WorldsDiffer", "TooMany", "InvalidName", "WrongKind", "CircularName", "InUse", "Breaks", "CapacityExceeded", "InvalidLimit", "InvalidCommand", "InvalidPage", "UnknownName", "NothingLeft"] (eName 0)) (eArgs semTup (aCons (eLit (.str "InvalidPlan")) (aCons (eLit (.str "EmptyLoop")) aNil)))))
  (sRet (eXat "path" ["InvalidPlan", "EmptyLoop"] (eName 0)))
  sNil)
  (sSeq (sIf (bVal (eBin inX (eXat "tag" ["InvalidRatio", "InvalidWorld", "InvalidElement", "InvalidText", "InvalidProgram", "InvalidPlan", "EmptyLoop", "InvalidStep", "InvalidReader", "WorldsDiffer", "TooMany", "InvalidName", "WrongKind", "CircularName", "InUse", "Breaks", "CapacityExceeded", "InvalidLimit", "InvalidCommand", "InvalidPage", "UnknownName", "NothingLeft"] (eName 0)) (eArgs semTup (aCons (eLit (.str "TooMany")) (aCons (eLit (.str "CapacityExceeded")) aNil)))))
  (sRet (eXat "limit" ["TooMany", "CapacityExceeded"] (eName 0)))
  sNil)
  (sSeq (sIf (bVal (eBin inX (eXat "tag" ["InvalidRatio", "InvalidWorld", "InvalidElement", "InvalidText", "InvalidProgram", "InvalidPlan", "EmptyLoop", "InvalidStep", "InvalidReader", "WorldsDiffer", "TooMany", "InvalidName", "WrongKind", "CircularName", "InUse", "Breaks", "CapacityExceeded", "InvalidLimit", "InvalidCommand", "InvalidPage", "UnknownName", "NothingLeft"] (eName 0)) (eArgs semTup (aCons (eLit (.str "InvalidText")) (aCons (eLit (.str "InvalidProgram")) aNil)))))
  (sRet (eIf (bVal (eBin (eqD false) (eXat "tag" ["InvalidRatio", "InvalidWorld", "InvalidElement", "InvalidText", "InvalidProgram", "InvalidPlan", "EmptyLoop", "InvalidStep", "InvalidReader", "WorldsDiffer", "TooMany", "InvalidName", "WrongKind", "CircularName", "InUse", "Breaks", "CapacityExceeded", "InvalidLimit", "InvalidCommand", "InvalidPage", "UnknownName", "NothingLeft"] (eName 0)) (eLit (.str "InvalidText")))) (eXat "given" ["InvalidText"] (eName 0)) (eXat "part" ["InvalidProgram"] (eName 0))))
  sNil)
  (sSeq (sIf (bVal (eBin inX (eXat "tag" ["InvalidRatio", "InvalidWorld", "InvalidElement", "InvalidText", "InvalidProgram", "InvalidPlan", "EmptyLoop", "InvalidStep", "InvalidReader", "WorldsDiffer", "TooMany", "InvalidName", "WrongKind", "CircularName", "InUse", "Breaks", "CapacityExceeded", "InvalidLimit", "InvalidCommand", "InvalidPage", "UnknownName", "NothingLeft"] (eName 0)) (eArgs semTup (aCons (eLit (.str "InUse")) (aCons (eLit (.str "Breaks")) aNil)))))
  (sRet (eIf (bVal (eBin (eqD false) (eXat "tag" ["InvalidRatio", "InvalidWorld", "InvalidElement", "InvalidText", "InvalidProgram", "InvalidPlan", "EmptyLoop", "InvalidStep", "InvalidReader", "WorldsDiffer", "TooMany", "InvalidName", "WrongKind", "CircularName", "InUse", "Breaks", "CapacityExceeded", "InvalidLimit", "InvalidCommand", "InvalidPage", "UnknownName", "NothingLeft"] (eName 0)) (eLit (.str "InUse")))) (eXat "user" ["InUse", "Breaks"] (eName 0)) (eArgs semTup (aCons (eXat "user" ["InUse", "Breaks"] (eName 0)) (aCons (eXat "word" ["Breaks", "InvalidCommand"] (eName 0)) aNil)))))
  sNil)
  (sSeq (sIf (bVal (eBin inX (eXat "tag" ["InvalidRatio", "InvalidWorld", "InvalidElement", "InvalidText", "InvalidProgram", "InvalidPlan", "EmptyLoop", "InvalidStep", "InvalidReader", "WorldsDiffer", "TooMany", "InvalidName", "WrongKind", "CircularName", "InUse", "Breaks", "CapacityExceeded", "InvalidLimit", "InvalidCommand", "InvalidPage", "UnknownName", "NothingLeft"] (eName 0)) (eArgs semTup (aCons (eLit (.str "InvalidCommand")) (aCons (eLit (.str "InvalidPage")) aNil)))))
  (sRet (eIf (bVal (eBin (eqD false) (eXat "tag" ["InvalidRatio", "InvalidWorld", "InvalidElement", "InvalidText", "InvalidProgram", "InvalidPlan", "EmptyLoop", "InvalidStep", "InvalidReader", "WorldsDiffer", "TooMany", "InvalidName", "WrongKind", "CircularName", "InUse", "Breaks", "CapacityExceeded", "InvalidLimit", "InvalidCommand", "InvalidPage", "UnknownName", "NothingLeft"] (eName 0)) (eLit (.str "InvalidCommand")))) (eXat "word" ["Breaks", "InvalidCommand"] (eName 0)) (eXat "line" ["InvalidPage"] (eName 0))))
  sNil)
  (sRet (eIf (bVal (eBin (eqD false) (eXat "tag" ["InvalidRatio", "InvalidWorld", "InvalidElement", "InvalidText", "InvalidProgram", "InvalidPlan", "EmptyLoop", "InvalidStep", "InvalidReader", "WorldsDiffer", "TooMany", "InvalidName", "WrongKind", "CircularName", "InUse", "Breaks", "CapacityExceeded", "InvalidLimit", "InvalidCommand", "InvalidPage", "UnknownName", "NothingLeft"] (eName 0)) (eLit (.str "InvalidReader")))) (eXat "place" ["InvalidReader"] (eName 0)) (eLit .non))))))))))
noncomputable def f__law_field : SemL := arity 1 (defS 1 m__law_field)
/-- _law_flags -/
noncomputable def m__law_flags : SX :=
  (sSeq (sAsg (eArgs semLst (aCons (eArgs (isiE (.inl "InvalidRatio") ["InvalidRatio"] ["InvalidWorld", "InvalidElement", "InvalidText", "InvalidProgram", "InvalidPlan", "EmptyLoop", "InvalidStep", "InvalidReader", "WorldsDiffer", "TooMany", "InvalidName", "WrongKind", "CircularName", "InUse", "Breaks", "CapacityExceeded", "InvalidLimit", "InvalidCommand", "InvalidPage", "UnknownName", "NothingLeft"]) (aCons (eName 0) (aCons (eLit (.cls "InvalidRatio")) aNil))) (aCons (eArgs (isiE (.inl "InvalidWorld") ["InvalidWorld"] ["InvalidRatio", "InvalidElement", "InvalidText", "InvalidProgram", "InvalidPlan", "EmptyLoop", "InvalidStep", "InvalidReader", "WorldsDiffer", "TooMany", "InvalidName", "WrongKind", "CircularName", "InUse", "Breaks", "CapacityExceeded", "InvalidLimit", "InvalidCommand", "InvalidPage", "UnknownName", "NothingLeft"]) (aCons (eName 0) (aCons (eLit (.cls "InvalidWorld")) aNil))) (aCons (eArgs (isiE (.inl "InvalidElement") ["InvalidElement"] ["InvalidRatio", "InvalidWorld", "InvalidText", "InvalidProgram", "InvalidPlan", "EmptyLoop", "InvalidStep", "InvalidReader", "WorldsDiffer", "TooMany", "InvalidName", "WrongKind", "CircularName", "InUse", "Breaks", "CapacityExceeded", "InvalidLimit", "InvalidCommand", "InvalidPage", "UnknownName", "NothingLeft"]) (aCons (eName 0) (aCons (eLit (.cls "InvalidElement")) aNil))) aNil)))) (gSet 1))
  (sSeq (sAsg (eBin addX (eName 1) (eArgs semLst (aCons (eArgs (isiE (.inl "InvalidText") ["InvalidText"] ["InvalidRatio", "InvalidWorld", "InvalidElement", "InvalidProgram", "InvalidPlan", "EmptyLoop", "InvalidStep", "InvalidReader", "WorldsDiffer", "TooMany", "InvalidName", "WrongKind", "CircularName", "InUse", "Breaks", "CapacityExceeded", "InvalidLimit", "InvalidCommand", "InvalidPage", "UnknownName", "NothingLeft"]) (aCons (eName 0) (aCons (eLit (.cls "InvalidText")) aNil))) (aCons (eArgs (isiE (.inl "InvalidProgram") ["InvalidProgram"] ["InvalidRatio", "InvalidWorld", "InvalidElement", "InvalidText", "InvalidPlan", "EmptyLoop", "InvalidStep", "InvalidReader", "WorldsDiffer", "TooMany", "InvalidName", "WrongKind", "CircularName", "InUse", "Breaks", "CapacityExceeded", "InvalidLimit", "InvalidCommand", "InvalidPage", "UnknownName", "NothingLeft"]) (aCons (eName 0) (aCons (eLit (.cls "InvalidProgram")) aNil))) (aCons (eArgs (isiE (.inl "InvalidPlan") ["InvalidPlan"] ["InvalidRatio", "InvalidWorld", "InvalidElement", "InvalidText", "InvalidProgram", "EmptyLoop", "InvalidStep", "InvalidReader", "WorldsDiffer", "TooMany", "InvalidName", "WrongKind", "CircularName", "InUse", "Breaks", "CapacityExceeded", "InvalidLimit", "InvalidCommand", "InvalidPage", "UnknownName", "NothingLeft"]) (aCons (eName 0) (aCons (eLit (.cls "InvalidPlan")) aNil))) aNil))))) (gSet 1))
  (sSeq (sAsg (eBin addX (eName 1) (eArgs semLst (aCons (eArgs (isiE (.inl "EmptyLoop") ["EmptyLoop"] ["InvalidRatio", "InvalidWorld", "InvalidElement", "InvalidText", "InvalidProgram", "InvalidPlan", "InvalidStep", "InvalidReader", "WorldsDiffer", "TooMany", "InvalidName", "WrongKind", "CircularName", "InUse", "Breaks", "CapacityExceeded", "InvalidLimit", "InvalidCommand", "InvalidPage", "UnknownName", "NothingLeft"]) (aCons (eName 0) (aCons (eLit (.cls "EmptyLoop")) aNil))) (aCons (eArgs (isiE (.inl "InvalidStep") ["InvalidStep"] ["InvalidRatio", "InvalidWorld", "InvalidElement", "InvalidText", "InvalidProgram", "InvalidPlan", "EmptyLoop", "InvalidReader", "WorldsDiffer", "TooMany", "InvalidName", "WrongKind", "CircularName", "InUse", "Breaks", "CapacityExceeded", "InvalidLimit", "InvalidCommand", "InvalidPage", "UnknownName", "NothingLeft"]) (aCons (eName 0) (aCons (eLit (.cls "InvalidStep")) aNil))) (aCons (eArgs (isiE (.inl "InvalidReader") ["InvalidReader"] ["InvalidRatio", "InvalidWorld", "InvalidElement", "InvalidText", "InvalidProgram", "InvalidPlan", "EmptyLoop", "InvalidStep", "WorldsDiffer", "TooMany", "InvalidName", "WrongKind", "CircularName", "InUse", "Breaks", "CapacityExceeded", "InvalidLimit", "InvalidCommand", "InvalidPage", "UnknownName", "NothingLeft"]) (aCons (eName 0) (aCons (eLit (.cls "InvalidReader")) aNil))) aNil))))) (gSet 1))
  (sSeq (sAsg (eBin addX (eName 1) (eArgs semLst (aCons (eArgs (isiE (.inl "WorldsDiffer") ["WorldsDiffer"] ["InvalidRatio", "InvalidWorld", "InvalidElement", "InvalidText", "InvalidProgram", "InvalidPlan", "EmptyLoop", "InvalidStep", "InvalidReader", "TooMany", "InvalidName", "WrongKind", "CircularName", "InUse", "Breaks", "CapacityExceeded", "InvalidLimit", "InvalidCommand", "InvalidPage", "UnknownName", "NothingLeft"]) (aCons (eName 0) (aCons (eLit (.cls "WorldsDiffer")) aNil))) (aCons (eArgs (isiE (.inl "TooMany") ["TooMany"] ["InvalidRatio", "InvalidWorld", "InvalidElement", "InvalidText", "InvalidProgram", "InvalidPlan", "EmptyLoop", "InvalidStep", "InvalidReader", "WorldsDiffer", "InvalidName", "WrongKind", "CircularName", "InUse", "Breaks", "CapacityExceeded", "InvalidLimit", "InvalidCommand", "InvalidPage", "UnknownName", "NothingLeft"]) (aCons (eName 0) (aCons (eLit (.cls "TooMany")) aNil))) (aCons (eArgs (isiE (.inl "InvalidName") ["InvalidName"] ["InvalidRatio", "InvalidWorld", "InvalidElement", "InvalidText", "InvalidProgram", "InvalidPlan", "EmptyLoop", "InvalidStep", "InvalidReader", "WorldsDiffer", "TooMany", "WrongKind", "CircularName", "InUse", "Breaks", "CapacityExceeded", "InvalidLimit", "InvalidCommand", "InvalidPage", "UnknownName", "NothingLeft"]) (aCons (eName 0) (aCons (eLit (.cls "InvalidName")) aNil))) aNil))))) (gSet 1))
  (sSeq (sAsg (eBin addX (eName 1) (eArgs semLst (aCons (eArgs (isiE (.inl "WrongKind") ["WrongKind"] ["InvalidRatio", "InvalidWorld", "InvalidElement", "InvalidText", "InvalidProgram", "InvalidPlan", "EmptyLoop", "InvalidStep", "InvalidReader", "WorldsDiffer", "TooMany", "InvalidName", "CircularName", "InUse", "Breaks", "CapacityExceeded", "InvalidLimit", "InvalidCommand", "InvalidPage", "UnknownName", "NothingLeft"]) (aCons (eName 0) (aCons (eLit (.cls "WrongKind")) aNil))) (aCons (eArgs (isiE (.inl "CircularName") ["CircularName"] ["InvalidRatio", "InvalidWorld", "InvalidElement", "InvalidText", "InvalidProgram", "InvalidPlan", "EmptyLoop", "InvalidStep", "InvalidReader", "WorldsDiffer", "TooMany", "InvalidName", "WrongKind", "InUse", "Breaks", "CapacityExceeded", "InvalidLimit", "InvalidCommand", "InvalidPage", "UnknownName", "NothingLeft"]) (aCons (eName 0) (aCons (eLit (.cls "CircularName")) aNil))) (aCons (eArgs (isiE (.inl "InUse") ["InUse"] ["InvalidRatio", "InvalidWorld", "InvalidElement", "InvalidText", "InvalidProgram", "InvalidPlan", "EmptyLoop", "InvalidStep", "InvalidReader", "WorldsDiffer", "TooMany", "InvalidName", "WrongKind", "CircularName", "Breaks", "CapacityExceeded", "InvalidLimit", "InvalidCommand", "InvalidPage", "UnknownName", "NothingLeft"]) (aCons (eName 0) (aCons (eLit (.cls "InUse")) aNil))) aNil))))) (gSet 1))
  (sSeq (sAsg (eBin addX (eName 1) (eArgs semLst (aCons (eArgs (isiE (.inl "Breaks") ["Breaks"] ["InvalidRatio", "InvalidWorld", "InvalidElement", "InvalidText", "InvalidProgram", "InvalidPlan", "EmptyLoop", "InvalidStep", "InvalidReader", "WorldsDiffer", "TooMany", "InvalidName", "WrongKind", "CircularName", "InUse", "CapacityExceeded", "InvalidLimit", "InvalidCommand", "InvalidPage", "UnknownName", "NothingLeft"]) (aCons (eName 0) (aCons (eLit (.cls "Breaks")) aNil))) (aCons (eArgs (isiE (.inl "CapacityExceeded") ["CapacityExceeded"] ["InvalidRatio", "InvalidWorld", "InvalidElement", "InvalidText", "InvalidProgram", "InvalidPlan", "EmptyLoop", "InvalidStep", "InvalidReader", "WorldsDiffer", "TooMany", "InvalidName", "WrongKind", "CircularName", "InUse", "Breaks", "InvalidLimit", "InvalidCommand", "InvalidPage", "UnknownName", "NothingLeft"]) (aCons (eName 0) (aCons (eLit (.cls "CapacityExceeded")) aNil))) (aCons (eArgs (isiE (.inl "InvalidLimit") ["InvalidLimit"] ["InvalidRatio", "InvalidWorld", "InvalidElement", "InvalidText", "InvalidProgram", "InvalidPlan", "EmptyLoop", "InvalidStep", "InvalidReader", "WorldsDiffer", "TooMany", "InvalidName", "WrongKind", "CircularName", "InUse", "Breaks", "CapacityExceeded", "InvalidCommand", "InvalidPage", "UnknownName", "NothingLeft"]) (aCons (eName 0) (aCons (eLit (.cls "InvalidLimit")) aNil))) aNil))))) (gSet 1))
  (sSeq (sAsg (eBin addX (eName 1) (eArgs semLst (aCons (eArgs (isiE (.inl "InvalidCommand") ["InvalidCommand"] ["InvalidRatio", "InvalidWorld", "InvalidElement", "InvalidText", "InvalidProgram", "InvalidPlan", "EmptyLoop", "InvalidStep", "InvalidReader", "WorldsDiffer", "TooMany", "InvalidName", "WrongKind", "CircularName", "InUse", "Breaks", "CapacityExceeded", "InvalidLimit", "InvalidPage", "UnknownName", "NothingLeft"]) (aCons (eName 0) (aCons (eLit (.cls "InvalidCommand")) aNil))) (aCons (eArgs (isiE (.inl "InvalidPage") ["InvalidPage"] ["InvalidRatio", "InvalidWorld", "InvalidElement", "InvalidText", "InvalidProgram", "InvalidPlan", "EmptyLoop", "InvalidStep", "InvalidReader", "WorldsDiffer", "TooMany", "InvalidName", "WrongKind", "CircularName", "InUse", "Breaks", "CapacityExceeded", "InvalidLimit", "InvalidCommand", "UnknownName", "NothingLeft"]) (aCons (eName 0) (aCons (eLit (.cls "InvalidPage")) aNil))) (aCons (eArgs (isiE (.inl "UnknownName") ["UnknownName"] ["InvalidRatio", "InvalidWorld", "InvalidElement", "InvalidText", "InvalidProgram", "InvalidPlan", "EmptyLoop", "InvalidStep", "InvalidReader", "WorldsDiffer", "TooMany", "InvalidName", "WrongKind", "CircularName", "InUse", "Breaks", "CapacityExceeded", "InvalidLimit", "InvalidCommand", "InvalidPage", "NothingLeft"]) (aCons (eName 0) (aCons (eLit (.cls "UnknownName")) aNil))) aNil))))) (gSet 1))
  (sSeq (sAsg (eBin addX (eName 1) (eArgs semLst (aCons (eArgs (isiE (.inl "NothingLeft") ["NothingLeft"] ["InvalidRatio", "InvalidWorld", "InvalidElement", "InvalidText", "InvalidProgram", "InvalidPlan", "EmptyLoop", "InvalidStep", "InvalidReader", "WorldsDiffer", "TooMany", "InvalidName", "WrongKind", "CircularName", "InUse", "Breaks", "CapacityExceeded", "InvalidLimit", "InvalidCommand", "InvalidPage", "UnknownName"]) (aCons (eName 0) (aCons (eLit (.cls "NothingLeft")) aNil))) (aCons (eArgs (isiE (.inl "WayError") ["InvalidRatio", "InvalidWorld", "InvalidElement", "InvalidText", "InvalidProgram", "InvalidPlan", "EmptyLoop", "InvalidStep", "InvalidReader", "WorldsDiffer", "TooMany", "InvalidName", "WrongKind", "CircularName", "InUse", "Breaks", "CapacityExceeded", "InvalidLimit", "InvalidCommand", "InvalidPage"] ["UnknownName", "NothingLeft"]) (aCons (eName 0) (aCons (eLit (.cls "WayError")) aNil))) (aCons (eArgs (isiE (.inr "ValueError") ["InvalidRatio", "InvalidWorld", "InvalidElement", "InvalidText", "InvalidProgram", "InvalidPlan", "EmptyLoop", "InvalidStep", "InvalidReader", "WorldsDiffer", "TooMany", "InvalidName", "WrongKind", "CircularName", "InUse", "Breaks", "CapacityExceeded", "InvalidLimit", "InvalidCommand", "InvalidPage"] ["UnknownName", "NothingLeft"]) (aCons (eName 0) (aCons (eLit (.ty "ValueError")) aNil))) aNil))))) (gSet 1))
  (sRet (eBin addX (eName 1) (eArgs semLst (aCons (eArgs (isiE (.inl "Missing") ["UnknownName"] ["InvalidRatio", "InvalidWorld", "InvalidElement", "InvalidText", "InvalidProgram", "InvalidPlan", "EmptyLoop", "InvalidStep", "InvalidReader", "WorldsDiffer", "TooMany", "InvalidName", "WrongKind", "CircularName", "InUse", "Breaks", "CapacityExceeded", "InvalidLimit", "InvalidCommand", "InvalidPage", "NothingLeft"]) (aCons (eName 0) (aCons (eLit (.cls "Missing")) aNil))) (aCons (eArgs (isiE (.inr "LookupError") ["UnknownName", "NothingLeft"] ["InvalidRatio", "InvalidWorld", "InvalidElement", "InvalidText", "InvalidProgram", "InvalidPlan", "EmptyLoop", "InvalidStep", "InvalidReader", "WorldsDiffer", "TooMany", "InvalidName", "WrongKind", "CircularName", "InUse", "Breaks", "CapacityExceeded", "InvalidLimit", "InvalidCommand", "InvalidPage"]) (aCons (eName 0) (aCons (eLit (.ty "LookupError")) aNil))) (aCons (eArgs (isiE (.inr "IndexError") ["NothingLeft"] ["InvalidRatio", "InvalidWorld", "InvalidElement", "InvalidText", "InvalidProgram", "InvalidPlan", "EmptyLoop", "InvalidStep", "InvalidReader", "WorldsDiffer", "TooMany", "InvalidName", "WrongKind", "CircularName", "InUse", "Breaks", "CapacityExceeded", "InvalidLimit", "InvalidCommand", "InvalidPage", "UnknownName"]) (aCons (eName 0) (aCons (eLit (.ty "IndexError")) aNil))) aNil))))))))))))))
noncomputable def f__law_flags : SemL := arity 1 (defS 2 m__law_flags)
/-- law -/
noncomputable def m_law : SX :=
  (sSeq (sAsg (eArgs f__law_bag (aCons (eName 0) aNil)) (gSet 1))
  (sSeq (sAsg (eFin (eLc (itRange1 (aCons (eLit (.int 3)) aNil)) (gSet 3) bTrue (eArgs f__law_of (aCons (eName 1) (aCons (eArgs semLst (aCons (eLit (.str "")) (aCons (eLit (.str "ab")) (aCons (eLit (.int 7)) (aCons (eArgs semTup (aCons (eLit (.int 1)) (aCons (eLit (.int 2)) aNil))) (aCons (eLit .non) (aCons (eArgs semTup (aCons (eLit (.str "x")) aNil)) (aCons (eBin powI (eLit (.int 10)) (eLit (.int 20))) aNil)))))))) aNil))) [3])) (gSet 2))
  (sSeq (sAsg (eArgs semLst (aCons (eLit (.str "InvalidRatio")) (aCons (eLit (.str "InvalidWorld")) (aCons (eLit (.str "InvalidElement")) (aCons (eLit (.str "InvalidText")) (aCons (eLit (.str "InvalidProgram")) aNil)))))) (gSet 4))
  (sSeq (sAsg (eBin addX (eName 4) (eArgs semLst (aCons (eLit (.str "InvalidPlan")) (aCons (eLit (.str "EmptyLoop")) (aCons (eLit (.str "InvalidStep")) (aCons (eLit (.str "InvalidReader")) (aCons (eLit (.str "WorldsDiffer")) aNil))))))) (gSet 4))
  (sSeq (sAsg (eBin addX (eName 4) (eArgs semLst (aCons (eLit (.str "TooMany")) (aCons (eLit (.str "InvalidName")) (aCons (eLit (.str "WrongKind")) aNil))))) (gSet 4))
  (sSeq (sAsg (eBin addX (eName 4) (eArgs semLst (aCons (eLit (.str "CircularName")) (aCons (eLit (.str "InUse")) (aCons (eLit (.str "Breaks")) (aCons (eLit (.str "CapacityExceeded")) (aCons (eLit (.str "InvalidLimit")) (aCons (eLit (.str "InvalidCommand")) aNil)))))))) (gSet 4))
  (sSeq (sAsg (eBin addX (eName 4) (eArgs semLst (aCons (eLit (.str "InvalidPage")) (aCons (eLit (.str "UnknownName")) (aCons (eLit (.str "NothingLeft")) aNil))))) (gSet 4))
  (sSeq (sAsg (eArgs semLst (aCons (eBin ixX (eName 2) (eLit (.int 0))) (aCons (eBin ixX (eName 2) (eLit (.int 1))) (aCons (eBin ixX (eName 2) (eLit (.int 2))) (aCons (eBin ixX (eName 2) (eLit (.int 0))) (aCons (eBin ixX (eName 2) (eLit (.int 1))) (aCons (eBin ixX (eName 2) (eLit (.int 2))) (aCons (eBin ixX (eName 2) (eLit (.int 0))) (aCons (eBin ixX (eName 2) (eLit (.int 1))) (aCons (eBin ixX (eName 2) (eLit (.int 2))) (aCons (eLit .non) (aCons (eBin ixX (eName 2) (eLit (.int 0))) (aCons (eBin ixX (eName 2) (eLit (.int 1))) aNil))))))))))))) (gSet 5))
  (sSeq (sAsg (eBin addX (eName 5) (eArgs semLst (aCons (eBin ixX (eName 2) (eLit (.int 2))) (aCons (eBin ixX (eName 2) (eLit (.int 0))) (aCons (eBin ixX (eName 2) (eLit (.int 1))) (aCons (eArgs semTup (aCons (eBin ixX (eName 2) (eLit (.int 2))) (aCons (eBin ixX (eName 2) (eLit (.int 0))) aNil))) (aCons (eBin ixX (eName 2) (eLit (.int 1))) (aCons (eBin ixX (eName 2) (eLit (.int 2))) (aCons (eBin ixX (eName 2) (eLit (.int 0))) (aCons (eBin ixX (eName 2) (eLit (.int 1))) (aCons (eBin ixX (eName 2) (eLit (.int 2))) (aCons (eLit .non) aNil)))))))))))) (gSet 5))
  (sSeq (sFor (itEnum (aCons (eArgs f__law_all (aCons (eName 2) aNil)) aNil)) (gTupX (gConsX (gSet 6) (gConsX (gSet 7) gNilX)))
  (sSeq (sAsg (eFin (eLc (itAny (eName 4)) (gSet 9) bTrue (eBin (eqD false) (eName 9) (eBin ixX (eName 4) (eName 6))) [9])) (gSet 8))
  (sSeq (sAsg (eArgs semLst (aCons (eBin ltX (eName 6) (eLit (.int 20))) (aCons (eBin ltX (eName 6) (eLit (.int 20))) (aCons (eBin (eqD false) (eName 6) (eLit (.int 20))) (aCons (eBin geI (eName 6) (eLit (.int 20))) (aCons (eBin (eqD false) (eName 6) (eLit (.int 21))) aNil)))))) (gSet 10))
  (sIf (bOr (bNot (bVal (eArgs f__law_same (aCons (eArgs semLst (aCons (eXat "tag" ["InvalidRatio", "InvalidWorld", "InvalidElement", "InvalidText", "InvalidProgram", "InvalidPlan", "EmptyLoop", "InvalidStep", "InvalidReader", "WorldsDiffer", "TooMany", "InvalidName", "WrongKind", "CircularName", "InUse", "Breaks", "CapacityExceeded", "InvalidLimit", "InvalidCommand", "InvalidPage", "UnknownName", "NothingLeft"] (eName 7)) (aCons (eArgs f__law_field (aCons (eName 7) aNil)) aNil))) (aCons (eArgs semLst (aCons (eBin ixX (eName 4) (eName 6)) (aCons (eBin ixX (eName 5) (eName 6)) aNil))) aNil))))) (bVal (eBin (eqD true) (eArgs f__law_flags (aCons (eName 7) aNil)) (eBin addX (eName 8) (eName 10)))))
  (sRet (eLit (.bl false)))
  sNil))))
  (sRet (eArgs f__law_same (aCons (eArgs semLst (aCons (eXat "user" ["Breaks"] (eCallK 0 2 (excKS "Breaks" "Breaks" ["user", "word"] [1, 0]) aNil (aCons (eLit (.str "x")) (aCons (eLit (.str "y")) aNil)))) (aCons (eXat "word" ["Breaks"] (eCallK 0 2 (excKS "Breaks" "Breaks" ["user", "word"] [1, 0]) aNil (aCons (eLit (.str "x")) (aCons (eLit (.str "y")) aNil)))) aNil))) (aCons (eArgs semLst (aCons (eLit (.str "y")) (aCons (eLit (.str "x")) aNil))) aNil))))))))))))))
theorem sc__law_all : FnScope ["_law_some", "_law_found"] ["_law_some"] (defScope s__law_all) := ⟨rfl, rfl, rfl, by decide +kernel, rfl, by decide +kernel, by decide +kernel⟩
theorem sc__law_bag : FnScope ["_law_script"] ["_law_script"] (defScope s__law_bag) := ⟨rfl, rfl, rfl, by decide +kernel, rfl, by decide +kernel, by decide +kernel⟩
theorem sc__law_field : FnScope ["_law_e"] ["_law_e"] (defScope s__law_field) := ⟨rfl, rfl, rfl, by decide +kernel, rfl, by decide +kernel, by decide +kernel⟩
theorem sc__law_flags : FnScope ["_law_e", "_law_found"] ["_law_e"] (defScope s__law_flags) := ⟨rfl, rfl, rfl, by decide +kernel, rfl, by decide +kernel, by decide +kernel⟩
theorem sc__law_pick : FnScope ["_law_bag_here", "_law_many", "_law_cell", "_law_digit", "_law_seed"] ["_law_bag_here", "_law_many"] (defScope s__law_pick) := ⟨rfl, rfl, rfl, by decide +kernel, rfl, by decide +kernel, by decide +kernel⟩
theorem sc__law_of : FnScope ["_law_bag_here", "_law_some"] ["_law_bag_here", "_law_some"] (defScope s__law_of) := ⟨rfl, rfl, rfl, by decide +kernel, rfl, by decide +kernel, by decide +kernel⟩
theorem sc__law_same : FnScope ["_law_found", "_law_due", "_law_a", "_law_b"] ["_law_found", "_law_due"] (defScope s__law_same) := ⟨rfl, rfl, rfl, by decide +kernel, rfl, by decide +kernel, by decide +kernel⟩
theorem sc_law : FnScope ["_law_script", "_law_bag_here", "_law_some", "_law_k", "_law_tags", "_law_due", "_law_at", "_law_e", "_law_lone", "_law_tag_z", "_law_under"] ["_law_script"] (defScope s_law) := ⟨rfl, rfl, rfl, by decide +kernel, rfl, by decide +kernel, by decide +kernel⟩
/-- what the walk asks of the written part -/
structure Tx (K : PySem.W.Frag) (mg : Str → Option Value) (a__law_all a__law_bag a__law_field a__law_flags a__law_pick a__law_of a__law_same a_law C_WayError C_Missing C_InvalidRatio C_InvalidWorld C_InvalidElement C_InvalidText C_InvalidProgram C_InvalidPlan C_EmptyLoop C_InvalidStep C_InvalidReader C_WorldsDiffer C_TooMany C_InvalidName C_WrongKind C_CircularName C_InUse C_Breaks C_CapacityExceeded C_InvalidLimit C_InvalidCommand C_InvalidPage C_UnknownName C_NothingLeft : Addr) : Prop where
  m__law_all : mg "_law_all" = some (.ref a__law_all)
  k__law_all : PySem.W.keepIn K (.ref a__law_all) = true
  m__law_bag : mg "_law_bag" = some (.ref a__law_bag)
  k__law_bag : PySem.W.keepIn K (.ref a__law_bag) = true
  m__law_field : mg "_law_field" = some (.ref a__law_field)
  k__law_field : PySem.W.keepIn K (.ref a__law_field) = true
  m__law_flags : mg "_law_flags" = some (.ref a__law_flags)
  k__law_flags : PySem.W.keepIn K (.ref a__law_flags) = true
  m__law_pick : mg "_law_pick" = some (.ref a__law_pick)
  k__law_pick : PySem.W.keepIn K (.ref a__law_pick) = true
  m__law_of : mg "_law_of" = some (.ref a__law_of)
  k__law_of : PySem.W.keepIn K (.ref a__law_of) = true
  m__law_same : mg "_law_same" = some (.ref a__law_same)
  k__law_same : PySem.W.keepIn K (.ref a__law_same) = true
  m_law : mg "law" = some (.ref a_law)
  k_law : PySem.W.keepIn K (.ref a_law) = true
  m_WayError : mg "WayError" = some (.ref C_WayError)
  m_Missing : mg "Missing" = some (.ref C_Missing)
  m_InvalidRatio : mg "InvalidRatio" = some (.ref C_InvalidRatio)
  m_InvalidWorld : mg "InvalidWorld" = some (.ref C_InvalidWorld)
  m_InvalidElement : mg "InvalidElement" = some (.ref C_InvalidElement)
  m_InvalidText : mg "InvalidText" = some (.ref C_InvalidText)
  m_InvalidProgram : mg "InvalidProgram" = some (.ref C_InvalidProgram)
  m_InvalidPlan : mg "InvalidPlan" = some (.ref C_InvalidPlan)
  m_EmptyLoop : mg "EmptyLoop" = some (.ref C_EmptyLoop)
  m_InvalidStep : mg "InvalidStep" = some (.ref C_InvalidStep)
  m_InvalidReader : mg "InvalidReader" = some (.ref C_InvalidReader)
  m_WorldsDiffer : mg "WorldsDiffer" = some (.ref C_WorldsDiffer)
  m_TooMany : mg "TooMany" = some (.ref C_TooMany)
  m_InvalidName : mg "InvalidName" = some (.ref C_InvalidName)
  m_WrongKind : mg "WrongKind" = some (.ref C_WrongKind)
  m_CircularName : mg "CircularName" = some (.ref C_CircularName)
  m_InUse : mg "InUse" = some (.ref C_InUse)
  m_Breaks : mg "Breaks" = some (.ref C_Breaks)
  m_CapacityExceeded : mg "CapacityExceeded" = some (.ref C_CapacityExceeded)
  m_InvalidLimit : mg "InvalidLimit" = some (.ref C_InvalidLimit)
  m_InvalidCommand : mg "InvalidCommand" = some (.ref C_InvalidCommand)
  m_InvalidPage : mg "InvalidPage" = some (.ref C_InvalidPage)
  m_UnknownName : mg "UnknownName" = some (.ref C_UnknownName)
  m_NothingLeft : mg "NothingLeft" = some (.ref C_NothingLeft)
  ix_Breaks : IsX1 K mg (.inl "Breaks") ["Breaks"] ["InvalidRatio", "InvalidWorld", "InvalidElement", "InvalidText", "InvalidProgram", "InvalidPlan", "EmptyLoop", "InvalidStep", "InvalidReader", "WorldsDiffer", "TooMany", "InvalidName", "WrongKind", "CircularName", "InUse", "CapacityExceeded", "InvalidLimit", "InvalidCommand", "InvalidPage", "UnknownName", "NothingLeft"]
  ix_CapacityExceeded : IsX1 K mg (.inl "CapacityExceeded") ["CapacityExceeded"] ["InvalidRatio", "InvalidWorld", "InvalidElement", "InvalidText", "InvalidProgram", "InvalidPlan", "EmptyLoop", "InvalidStep", "InvalidReader", "WorldsDiffer", "TooMany", "InvalidName", "WrongKind", "CircularName", "InUse", "Breaks", "InvalidLimit", "InvalidCommand", "InvalidPage", "UnknownName", "NothingLeft"]
  ix_CircularName : IsX1 K mg (.inl "CircularName") ["CircularName"] ["InvalidRatio", "InvalidWorld", "InvalidElement", "InvalidText", "InvalidProgram", "InvalidPlan", "EmptyLoop", "InvalidStep", "InvalidReader", "WorldsDiffer", "TooMany", "InvalidName", "WrongKind", "InUse", "Breaks", "CapacityExceeded", "InvalidLimit", "InvalidCommand", "InvalidPage", "UnknownName", "NothingLeft"]
  ix_EmptyLoop : IsX1 K mg (.inl "EmptyLoop") ["EmptyLoop"] ["InvalidRatio", "InvalidWorld", "InvalidElement", "InvalidText", "InvalidProgram", "InvalidPlan", "InvalidStep", "InvalidReader", "WorldsDiffer", "TooMany", "InvalidName", "WrongKind", "CircularName", "InUse", "Breaks", "CapacityExceeded", "InvalidLimit", "InvalidCommand", "InvalidPage", "UnknownName", "NothingLeft"]
  ix_InUse : IsX1 K mg (.inl "InUse") ["InUse"] ["InvalidRatio", "InvalidWorld", "InvalidElement", "InvalidText", "InvalidProgram", "InvalidPlan", "EmptyLoop", "InvalidStep", "InvalidReader", "WorldsDiffer", "TooMany", "InvalidName", "WrongKind", "CircularName", "Breaks", "CapacityExceeded", "InvalidLimit", "InvalidCommand", "InvalidPage", "UnknownName", "NothingLeft"]
  ix_IndexError : IsX1 K mg (.inr "IndexError") ["NothingLeft"] ["InvalidRatio", "InvalidWorld", "InvalidElement", "InvalidText", "InvalidProgram", "InvalidPlan", "EmptyLoop", "InvalidStep", "InvalidReader", "WorldsDiffer", "TooMany", "InvalidName", "WrongKind", "CircularName", "InUse", "Breaks", "CapacityExceeded", "InvalidLimit", "InvalidCommand", "InvalidPage", "UnknownName"]
  ix_InvalidCommand : IsX1 K mg (.inl "InvalidCommand") ["InvalidCommand"] ["InvalidRatio", "InvalidWorld", "InvalidElement", "InvalidText", "InvalidProgram", "InvalidPlan", "EmptyLoop", "InvalidStep", "InvalidReader", "WorldsDiffer", "TooMany", "InvalidName", "WrongKind", "CircularName", "InUse", "Breaks", "CapacityExceeded", "InvalidLimit", "InvalidPage", "UnknownName", "NothingLeft"]
  ix_InvalidElement : IsX1 K mg (.inl "InvalidElement") ["InvalidElement"] ["InvalidRatio", "InvalidWorld", "InvalidText", "InvalidProgram", "InvalidPlan", "EmptyLoop", "InvalidStep", "InvalidReader", "WorldsDiffer", "TooMany", "InvalidName", "WrongKind", "CircularName", "InUse", "Breaks", "CapacityExceeded", "InvalidLimit", "InvalidCommand", "InvalidPage", "UnknownName", "NothingLeft"]
  ix_InvalidLimit : IsX1 K mg (.inl "InvalidLimit") ["InvalidLimit"] ["InvalidRatio", "InvalidWorld", "InvalidElement", "InvalidText", "InvalidProgram", "InvalidPlan", "EmptyLoop", "InvalidStep", "InvalidReader", "WorldsDiffer", "TooMany", "InvalidName", "WrongKind", "CircularName", "InUse", "Breaks", "CapacityExceeded", "InvalidCommand", "InvalidPage", "UnknownName", "NothingLeft"]
  ix_InvalidName : IsX1 K mg (.inl "InvalidName") ["InvalidName"] ["InvalidRatio", "InvalidWorld", "InvalidElement", "InvalidText", "InvalidProgram", "InvalidPlan", "EmptyLoop", "InvalidStep", "InvalidReader", "WorldsDiffer", "TooMany", "WrongKind", "CircularName", "InUse", "Breaks", "CapacityExceeded", "InvalidLimit", "InvalidCommand", "InvalidPage", "UnknownName", "NothingLeft"]
  ix_InvalidPage : IsX1 K mg (.inl "InvalidPage") ["InvalidPage"] ["InvalidRatio", "InvalidWorld", "InvalidElement", "InvalidText", "InvalidProgram", "InvalidPlan", "EmptyLoop", "InvalidStep", "InvalidReader", "WorldsDiffer", "TooMany", "InvalidName", "WrongKind", "CircularName", "InUse", "Breaks", "CapacityExceeded", "InvalidLimit", "InvalidCommand", "UnknownName", "NothingLeft"]
  ix_InvalidPlan : IsX1 K mg (.inl "InvalidPlan") ["InvalidPlan"] ["InvalidRatio", "InvalidWorld", "InvalidElement", "InvalidText", "InvalidProgram", "EmptyLoop", "InvalidStep", "InvalidReader", "WorldsDiffer", "TooMany", "InvalidName", "WrongKind", "CircularName", "InUse", "Breaks", "CapacityExceeded", "InvalidLimit", "InvalidCommand", "InvalidPage", "UnknownName", "NothingLeft"]
  ix_InvalidProgram : IsX1 K mg (.inl "InvalidProgram") ["InvalidProgram"] ["InvalidRatio", "InvalidWorld", "InvalidElement", "InvalidText", "InvalidPlan", "EmptyLoop", "InvalidStep", "InvalidReader", "WorldsDiffer", "TooMany", "InvalidName", "WrongKind", "CircularName", "InUse", "Breaks", "CapacityExceeded", "InvalidLimit", "InvalidCommand", "InvalidPage", "UnknownName", "NothingLeft"]
  ix_InvalidRatio : IsX1 K mg (.inl "InvalidRatio") ["InvalidRatio"] ["InvalidWorld", "InvalidElement", "InvalidText", "InvalidProgram", "InvalidPlan", "EmptyLoop", "InvalidStep", "InvalidReader", "WorldsDiffer", "TooMany", "InvalidName", "WrongKind", "CircularName", "InUse", "Breaks", "CapacityExceeded", "InvalidLimit", "InvalidCommand", "InvalidPage", "UnknownName", "NothingLeft"]
  ix_InvalidReader : IsX1 K mg (.inl "InvalidReader") ["InvalidReader"] ["InvalidRatio", "InvalidWorld", "InvalidElement", "InvalidText", "InvalidProgram", "InvalidPlan", "EmptyLoop", "InvalidStep", "WorldsDiffer", "TooMany", "InvalidName", "WrongKind", "CircularName", "InUse", "Breaks", "CapacityExceeded", "InvalidLimit", "InvalidCommand", "InvalidPage", "UnknownName", "NothingLeft"]
  ix_InvalidStep : IsX1 K mg (.inl "InvalidStep") ["InvalidStep"] ["InvalidRatio", "InvalidWorld", "InvalidElement", "InvalidText", "InvalidProgram", "InvalidPlan", "EmptyLoop", "InvalidReader", "WorldsDiffer", "TooMany", "InvalidName", "WrongKind", "CircularName", "InUse", "Breaks", "CapacityExceeded", "InvalidLimit", "InvalidCommand", "InvalidPage", "UnknownName", "NothingLeft"]
  ix_InvalidText : IsX1 K mg (.inl "InvalidText") ["InvalidText"] ["InvalidRatio", "InvalidWorld", "InvalidElement", "InvalidProgram", "InvalidPlan", "EmptyLoop", "InvalidStep", "InvalidReader", "WorldsDiffer", "TooMany", "InvalidName", "WrongKind", "CircularName", "InUse", "Breaks", "CapacityExceeded", "InvalidLimit", "InvalidCommand", "InvalidPage", "UnknownName", "NothingLeft"]
  ix_InvalidWorld : IsX1 K mg (.inl "InvalidWorld") ["InvalidWorld"] ["InvalidRatio", "InvalidElement", "InvalidText", "InvalidProgram", "InvalidPlan", "EmptyLoop", "InvalidStep", "InvalidReader", "WorldsDiffer", "TooMany", "InvalidName", "WrongKind", "CircularName", "InUse", "Breaks", "CapacityExceeded", "InvalidLimit", "InvalidCommand", "InvalidPage", "UnknownName", "NothingLeft"]
  ix_LookupError : IsX1 K mg (.inr "LookupError") ["UnknownName", "NothingLeft"] ["InvalidRatio", "InvalidWorld", "InvalidElement", "InvalidText", "InvalidProgram", "InvalidPlan", "EmptyLoop", "InvalidStep", "InvalidReader", "WorldsDiffer", "TooMany", "InvalidName", "WrongKind", "CircularName", "InUse", "Breaks", "CapacityExceeded", "InvalidLimit", "InvalidCommand", "InvalidPage"]
  ix_Missing : IsX1 K mg (.inl "Missing") ["UnknownName"] ["InvalidRatio", "InvalidWorld", "InvalidElement", "InvalidText", "InvalidProgram", "InvalidPlan", "EmptyLoop", "InvalidStep", "InvalidReader", "WorldsDiffer", "TooMany", "InvalidName", "WrongKind", "CircularName", "InUse", "Breaks", "CapacityExceeded", "InvalidLimit", "InvalidCommand", "InvalidPage", "NothingLeft"]
  ix_NothingLeft : IsX1 K mg (.inl "NothingLeft") ["NothingLeft"] ["InvalidRatio", "InvalidWorld", "InvalidElement", "InvalidText", "InvalidProgram", "InvalidPlan", "EmptyLoop", "InvalidStep", "InvalidReader", "WorldsDiffer", "TooMany", "InvalidName", "WrongKind", "CircularName", "InUse", "Breaks", "CapacityExceeded", "InvalidLimit", "InvalidCommand", "InvalidPage", "UnknownName"]
  ix_TooMany : IsX1 K mg (.inl "TooMany") ["TooMany"] ["InvalidRatio", "InvalidWorld", "InvalidElement", "InvalidText", "InvalidProgram", "InvalidPlan", "EmptyLoop", "InvalidStep", "InvalidReader", "WorldsDiffer", "InvalidName", "WrongKind", "CircularName", "InUse", "Breaks", "CapacityExceeded", "InvalidLimit", "InvalidCommand", "InvalidPage", "UnknownName", "NothingLeft"]
  ix_UnknownName : IsX1 K mg (.inl "UnknownName") ["UnknownName"] ["InvalidRatio", "InvalidWorld", "InvalidElement", "InvalidText", "InvalidProgram", "InvalidPlan", "EmptyLoop", "InvalidStep", "InvalidReader", "WorldsDiffer", "TooMany", "InvalidName", "WrongKind", "CircularName", "InUse", "Breaks", "CapacityExceeded", "InvalidLimit", "InvalidCommand", "InvalidPage", "NothingLeft"]
  ix_ValueError : IsX1 K mg (.inr "ValueError") ["InvalidRatio", "InvalidWorld", "InvalidElement", "InvalidText", "InvalidProgram", "InvalidPlan", "EmptyLoop", "InvalidStep", "InvalidReader", "WorldsDiffer", "TooMany", "InvalidName", "WrongKind", "CircularName", "InUse", "Breaks", "CapacityExceeded", "InvalidLimit", "InvalidCommand", "InvalidPage"] ["UnknownName", "NothingLeft"]
  ix_WayError : IsX1 K mg (.inl "WayError") ["InvalidRatio", "InvalidWorld", "InvalidElement", "InvalidText", "InvalidProgram", "InvalidPlan", "EmptyLoop", "InvalidStep", "InvalidReader", "WorldsDiffer", "TooMany", "InvalidName", "WrongKind", "CircularName", "InUse", "Breaks", "CapacityExceeded", "InvalidLimit", "InvalidCommand", "InvalidPage"] ["UnknownName", "NothingLeft"]
  ix_WorldsDiffer : IsX1 K mg (.inl "WorldsDiffer") ["WorldsDiffer"] ["InvalidRatio", "InvalidWorld", "InvalidElement", "InvalidText", "InvalidProgram", "InvalidPlan", "EmptyLoop", "InvalidStep", "InvalidReader", "TooMany", "InvalidName", "WrongKind", "CircularName", "InUse", "Breaks", "CapacityExceeded", "InvalidLimit", "InvalidCommand", "InvalidPage", "UnknownName", "NothingLeft"]
  ix_WrongKind : IsX1 K mg (.inl "WrongKind") ["WrongKind"] ["InvalidRatio", "InvalidWorld", "InvalidElement", "InvalidText", "InvalidProgram", "InvalidPlan", "EmptyLoop", "InvalidStep", "InvalidReader", "WorldsDiffer", "TooMany", "InvalidName", "CircularName", "InUse", "Breaks", "CapacityExceeded", "InvalidLimit", "InvalidCommand", "InvalidPage", "UnknownName", "NothingLeft"]
  xf_Breaks : XfC K C_Breaks
  xn_Breaks_tag : PySem.W.findIn K (.ref C_Breaks) "tag" = some none
  xn_Breaks_user : PySem.W.findIn K (.ref C_Breaks) "user" = some none
  xn_Breaks_word : PySem.W.findIn K (.ref C_Breaks) "word" = some none
  xf_CapacityExceeded : XfC K C_CapacityExceeded
  xn_CapacityExceeded_limit : PySem.W.findIn K (.ref C_CapacityExceeded) "limit" = some none
  xn_CapacityExceeded_tag : PySem.W.findIn K (.ref C_CapacityExceeded) "tag" = some none
  xf_CircularName : XfC K C_CircularName
  xn_CircularName_name : PySem.W.findIn K (.ref C_CircularName) "name" = some none
  xn_CircularName_tag : PySem.W.findIn K (.ref C_CircularName) "tag" = some none
  xf_EmptyLoop : XfC K C_EmptyLoop
  xn_EmptyLoop_path : PySem.W.findIn K (.ref C_EmptyLoop) "path" = some none
  xn_EmptyLoop_tag : PySem.W.findIn K (.ref C_EmptyLoop) "tag" = some none
  xf_InUse : XfC K C_InUse
  xn_InUse_tag : PySem.W.findIn K (.ref C_InUse) "tag" = some none
  xn_InUse_user : PySem.W.findIn K (.ref C_InUse) "user" = some none
  xf_InvalidCommand : XfC K C_InvalidCommand
  xn_InvalidCommand_tag : PySem.W.findIn K (.ref C_InvalidCommand) "tag" = some none
  xn_InvalidCommand_word : PySem.W.findIn K (.ref C_InvalidCommand) "word" = some none
  xf_InvalidElement : XfC K C_InvalidElement
  xn_InvalidElement_tag : PySem.W.findIn K (.ref C_InvalidElement) "tag" = some none
  xn_InvalidElement_value : PySem.W.findIn K (.ref C_InvalidElement) "value" = some none
  xf_InvalidLimit : XfC K C_InvalidLimit
  xn_InvalidLimit_tag : PySem.W.findIn K (.ref C_InvalidLimit) "tag" = some none
  xn_InvalidLimit_value : PySem.W.findIn K (.ref C_InvalidLimit) "value" = some none
  xf_InvalidName : XfC K C_InvalidName
  xn_InvalidName_name : PySem.W.findIn K (.ref C_InvalidName) "name" = some none
  xn_InvalidName_tag : PySem.W.findIn K (.ref C_InvalidName) "tag" = some none
  xf_InvalidPage : XfC K C_InvalidPage
  xn_InvalidPage_line : PySem.W.findIn K (.ref C_InvalidPage) "line" = some none
  xn_InvalidPage_tag : PySem.W.findIn K (.ref C_InvalidPage) "tag" = some none
  xf_InvalidPlan : XfC K C_InvalidPlan
  xn_InvalidPlan_path : PySem.W.findIn K (.ref C_InvalidPlan) "path" = some none
  xn_InvalidPlan_tag : PySem.W.findIn K (.ref C_InvalidPlan) "tag" = some none
  xf_InvalidProgram : XfC K C_InvalidProgram
  xn_InvalidProgram_part : PySem.W.findIn K (.ref C_InvalidProgram) "part" = some none
  xn_InvalidProgram_tag : PySem.W.findIn K (.ref C_InvalidProgram) "tag" = some none
  xf_InvalidRatio : XfC K C_InvalidRatio
  xn_InvalidRatio_tag : PySem.W.findIn K (.ref C_InvalidRatio) "tag" = some none
  xn_InvalidRatio_value : PySem.W.findIn K (.ref C_InvalidRatio) "value" = some none
  xf_InvalidReader : XfC K C_InvalidReader
  xn_InvalidReader_place : PySem.W.findIn K (.ref C_InvalidReader) "place" = some none
  xn_InvalidReader_tag : PySem.W.findIn K (.ref C_InvalidReader) "tag" = some none
  xf_InvalidStep : XfC K C_InvalidStep
  xn_InvalidStep_tag : PySem.W.findIn K (.ref C_InvalidStep) "tag" = some none
  xn_InvalidStep_value : PySem.W.findIn K (.ref C_InvalidStep) "value" = some none
  xf_InvalidText : XfC K C_InvalidText
  xn_InvalidText_given : PySem.W.findIn K (.ref C_InvalidText) "given" = some none
  xn_InvalidText_tag : PySem.W.findIn K (.ref C_InvalidText) "tag" = some none
  xf_InvalidWorld : XfC K C_InvalidWorld
  xn_InvalidWorld_tag : PySem.W.findIn K (.ref C_InvalidWorld) "tag" = some none
  xn_InvalidWorld_value : PySem.W.findIn K (.ref C_InvalidWorld) "value" = some none
  xf_NothingLeft : XfC K C_NothingLeft
  xn_NothingLeft_tag : PySem.W.findIn K (.ref C_NothingLeft) "tag" = some none
  xf_TooMany : XfC K C_TooMany
  xn_TooMany_limit : PySem.W.findIn K (.ref C_TooMany) "limit" = some none
  xn_TooMany_tag : PySem.W.findIn K (.ref C_TooMany) "tag" = some none
  xf_UnknownName : XfC K C_UnknownName
  xn_UnknownName_name : PySem.W.findIn K (.ref C_UnknownName) "name" = some none
  xn_UnknownName_tag : PySem.W.findIn K (.ref C_UnknownName) "tag" = some none
  xf_WorldsDiffer : XfC K C_WorldsDiffer
  xn_WorldsDiffer_tag : PySem.W.findIn K (.ref C_WorldsDiffer) "tag" = some none
  xf_WrongKind : XfC K C_WrongKind
  xn_WrongKind_name : PySem.W.findIn K (.ref C_WrongKind) "name" = some none
  xn_WrongKind_tag : PySem.W.findIn K (.ref C_WrongKind) "tag" = some none
  b_IndexError : mg "IndexError" = none
  b_LookupError : mg "LookupError" = none
  b_ValueError : mg "ValueError" = none
  b_all : mg "all" = none
  b_bool : mg "bool" = none
  b_enumerate : mg "enumerate" = none
  b_int : mg "int" = none
  b_isinstance : mg "isinstance" = none
  b_len : mg "len" = none
  b_list : mg "list" = none
  b_range : mg "range" = none
  b_str : mg "str" = none
  b_tuple : mg "tuple" = none
  b_zip : mg "zip" = none
section
variable {P : Program} {w : World} {K : PySem.W.Frag} {mg : Str → Option Value} {base : Heap} {a__law_all a__law_bag a__law_field a__law_flags a__law_pick a__law_of a__law_same a_law C_WayError C_Missing C_InvalidRatio C_InvalidWorld C_InvalidElement C_InvalidText C_InvalidProgram C_InvalidPlan C_EmptyLoop C_InvalidStep C_InvalidReader C_WorldsDiffer C_TooMany C_InvalidName C_WrongKind C_CircularName C_InUse C_Breaks C_CapacityExceeded C_InvalidLimit C_InvalidCommand C_InvalidPage C_UnknownName C_NothingLeft : Addr}
theorem o__law_all (T : Tx K mg a__law_all a__law_bag a__law_field a__law_flags a__law_pick a__law_of a__law_same a_law C_WayError C_Missing C_InvalidRatio C_InvalidWorld C_InvalidElement C_InvalidText C_InvalidProgram C_InvalidPlan C_EmptyLoop C_InvalidStep C_InvalidReader C_WorldsDiffer C_TooMany C_InvalidName C_WrongKind C_CircularName C_InUse C_Breaks C_CapacityExceeded C_InvalidLimit C_InvalidCommand C_InvalidPage C_UnknownName C_NothingLeft) {fd : FuncData} (F : FunD K "_law_all" "_law_all" (defArgs s__law_all) (defBody s__law_all) (defScope s__law_all) [] [] a__law_all fd) (X_InvalidRatio : XMk P w K mg base "InvalidRatio" C_InvalidRatio 2 "InvalidRatio" ["value"]) (X_InvalidWorld : XMk P w K mg base "InvalidWorld" C_InvalidWorld 2 "InvalidWorld" ["value"]) (X_InvalidElement : XMk P w K mg base "InvalidElement" C_InvalidElement 2 "InvalidElement" ["value"]) (X_InvalidText : XMk P w K mg base "InvalidText" C_InvalidText 2 "InvalidText" ["given"]) (X_InvalidProgram : XMk P w K mg base "InvalidProgram" C_InvalidProgram 2 "InvalidProgram" ["part"]) (X_InvalidPlan : XMk P w K mg base "InvalidPlan" C_InvalidPlan 2 "InvalidPlan" ["path"]) (X_EmptyLoop : XMk P w K mg base "EmptyLoop" C_EmptyLoop 2 "EmptyLoop" ["path"]) (X_InvalidStep : XMk P w K mg base "InvalidStep" C_InvalidStep 2 "InvalidStep" ["value"]) (X_InvalidReader : XMk P w K mg base "InvalidReader" C_InvalidReader 2 "InvalidReader" ["place"]) (X_WorldsDiffer : XMk P w K mg base "WorldsDiffer" C_WorldsDiffer 2 "WorldsDiffer" []) (X_TooMany : XMk P w K mg base "TooMany" C_TooMany 2 "TooMany" ["limit"]) (X_InvalidName : XMk P w K mg base "InvalidName" C_InvalidName 2 "InvalidName" ["name"]) (X_WrongKind : XMk P w K mg base "WrongKind" C_WrongKind 2 "WrongKind" ["name"]) (X_CircularName : XMk P w K mg base "CircularName" C_CircularName 2 "CircularName" ["name"]) (X_InUse : XMk P w K mg base "InUse" C_InUse 2 "InUse" ["user"]) (X_Breaks : XMk P w K mg base "Breaks" C_Breaks 2 "Breaks" ["user", "word"]) (X_CapacityExceeded : XMk P w K mg base "CapacityExceeded" C_CapacityExceeded 2 "CapacityExceeded" ["limit"]) (X_InvalidLimit : XMk P w K mg base "InvalidLimit" C_InvalidLimit 2 "InvalidLimit" ["value"]) (X_InvalidCommand : XMk P w K mg base "InvalidCommand" C_InvalidCommand 2 "InvalidCommand" ["word"]) (X_InvalidPage : XMk P w K mg base "InvalidPage" C_InvalidPage 2 "InvalidPage" ["line"]) (X_UnknownName : XMk P w K mg base "UnknownName" C_UnknownName 2 "UnknownName" ["name"]) (X_NothingLeft : XMk P w K mg base "NothingLeft" C_NothingLeft 2 "NothingLeft" []) (XK_InUse_0 : XMkK P w K mg base "InUse" C_InUse 2 "InUse" ["user"] ["user"] [0] [0]) (XK_InvalidCommand_0 : XMkK P w K mg base "InvalidCommand" C_InvalidCommand 2 "InvalidCommand" ["word"] ["word"] [0] [0]) (XK_InvalidPage_0 : XMkK P w K mg base "InvalidPage" C_InvalidPage 2 "InvalidPage" ["line"] ["line"] [0] [0]) (XK_InvalidPlan_0 : XMkK P w K mg base "InvalidPlan" C_InvalidPlan 2 "InvalidPlan" ["path"] ["path"] [0] [0]) (XK_InvalidReader_0 : XMkK P w K mg base "InvalidReader" C_InvalidReader 2 "InvalidReader" ["place"] ["place"] [0] [0]) (XK_InvalidText_0 : XMkK P w K mg base "InvalidText" C_InvalidText 2 "InvalidText" ["given"] ["given"] [0] [0]) (XK_InvalidWorld_0 : XMkK P w K mg base "InvalidWorld" C_InvalidWorld 2 "InvalidWorld" ["value"] ["value"] [0] [0]) (XK_TooMany_0 : XMkK P w K mg base "TooMany" C_TooMany 2 "TooMany" ["limit"] ["limit"] [0] [0]) (XK_WrongKind_0 : XMkK P w K mg base "WrongKind" C_WrongKind 2 "WrongKind" ["name"] ["name"] [0] [0]) : FnOk P w K mg base (L2.CX P w) 4 a__law_all fd ["_law_some"] (spOf K mg 1 (defS 2 (m__law_all))) := by
  refine fn_okD (N := ["_law_some", "_law_found"]) F sc__law_all (k := 3) (body := m__law_all) fun A outer s H E hr => ?_
  have tk : Takes (cxOf (L2.CX P w) P w K mg base ["_law_some", "_law_found"] "_law_all" (defScope s__law_all) a__law_all fd.code A outer s H E) (fun c d _ H' => E c d H') := takes_of rfl rfl rfl rfl
  have hp : PassesOwn (model P w) (cxOf (L2.CX P w) P w K mg base ["_law_some", "_law_found"] "_law_all" (defScope s__law_all) a__law_all fd.code A outer s H E).A (cxOf (L2.CX P w) P w K mg base ["_law_some", "_law_found"] "_law_all" (defScope s__law_all) a__law_all fd.code A outer s H E).env (cxOf (L2.CX P w) P w K mg base ["_law_some", "_law_found"] "_law_all" (defScope s__law_all) a__law_all fd.code A outer s H E).xe := passes_of rfl
  unfold m__law_all
  exact (s_cons (s_set (i := 1) sc__law_all.nd (r_lst (a_cons (r_excZ X_InvalidRatio (hr.mono (by omega)) (by decide) (a_cons (r_ix (d_ixX hr.units) (r_name (i := 0)) r_int) a_nil)) (a_cons (r_excK0 XK_InvalidWorld_0 (hr.mono (by omega)) (by decide) (k_cons (r_ix (d_ixX hr.units) (r_name (i := 0)) r_int) k_nil)) (a_cons (r_excZ X_InvalidElement (hr.mono (by omega)) (by decide) (a_cons (r_ix (d_ixX hr.units) (r_name (i := 0)) r_int) a_nil)) (a_cons (r_excK0 XK_InvalidText_0 (hr.mono (by omega)) (by decide) (k_cons (r_ix (d_ixX hr.units) (r_name (i := 0)) r_int) k_nil)) a_nil))))))
  (s_cons (s_set (i := 1) sc__law_all.nd (r_bin d_addX (r_name (i := 1)) (r_lst (a_cons (r_excZ X_InvalidProgram (hr.mono (by omega)) (by decide) (a_cons (r_ix (d_ixX hr.units) (r_name (i := 0)) r_int) a_nil)) (a_cons (r_excK0 XK_InvalidPlan_0 (hr.mono (by omega)) (by decide) (k_cons (r_ix (d_ixX hr.units) (r_name (i := 0)) r_int) k_nil)) a_nil)))))
  (s_cons (s_set (i := 1) sc__law_all.nd (r_bin d_addX (r_name (i := 1)) (r_lst (a_cons (r_excZ X_EmptyLoop (hr.mono (by omega)) (by decide) (a_cons (r_ix (d_ixX hr.units) (r_name (i := 0)) r_int) a_nil)) (a_cons (r_excZ X_InvalidStep (hr.mono (by omega)) (by decide) (a_cons (r_ix (d_ixX hr.units) (r_name (i := 0)) r_int) a_nil)) a_nil)))))
  (s_cons (s_set (i := 1) sc__law_all.nd (r_bin d_addX (r_name (i := 1)) (r_lst (a_cons (r_excK0 XK_InvalidReader_0 (hr.mono (by omega)) (by decide) (k_cons (r_ix (d_ixX hr.units) (r_name (i := 0)) r_int) k_nil)) (a_cons (r_excZ0 X_WorldsDiffer (hr.mono (by omega))) (a_cons (r_excK0 XK_TooMany_0 (hr.mono (by omega)) (by decide) (k_cons (r_ix (d_ixX hr.units) (r_name (i := 0)) r_int) k_nil)) (a_cons (r_excZ X_InvalidName (hr.mono (by omega)) (by decide) (a_cons (r_ix (d_ixX hr.units) (r_name (i := 0)) r_int) a_nil)) a_nil)))))))
  (s_cons (s_set (i := 1) sc__law_all.nd (r_bin d_addX (r_name (i := 1)) (r_lst (a_cons (r_excK0 XK_WrongKind_0 (hr.mono (by omega)) (by decide) (k_cons (r_ix (d_ixX hr.units) (r_name (i := 0)) r_int) k_nil)) (a_cons (r_excZ X_CircularName (hr.mono (by omega)) (by decide) (a_cons (r_ix (d_ixX hr.units) (r_name (i := 0)) r_int) a_nil)) (a_cons (r_excK0 XK_InUse_0 (hr.mono (by omega)) (by decide) (k_cons (r_ix (d_ixX hr.units) (r_name (i := 0)) r_int) k_nil)) (a_cons (r_excZ X_Breaks (hr.mono (by omega)) (by decide) (a_cons (r_ix (d_ixX hr.units) (r_name (i := 0)) r_int) (a_cons (r_ix (d_ixX hr.units) (r_name (i := 0)) r_int) a_nil))) a_nil)))))))
  (s_cons (s_set (i := 1) sc__law_all.nd (r_bin d_addX (r_name (i := 1)) (r_lst (a_cons (r_excZ X_CapacityExceeded (hr.mono (by omega)) (by decide) (a_cons (r_ix (d_ixX hr.units) (r_name (i := 0)) r_int) a_nil)) (a_cons (r_excZ X_InvalidLimit (hr.mono (by omega)) (by decide) (a_cons (r_ix (d_ixX hr.units) (r_name (i := 0)) r_int) a_nil)) (a_cons (r_excK0 XK_InvalidCommand_0 (hr.mono (by omega)) (by decide) (k_cons (r_ix (d_ixX hr.units) (r_name (i := 0)) r_int) k_nil)) a_nil))))))
  (s_one (s_ret (r_bin d_addX (r_name (i := 1)) (r_lst (a_cons (r_excK0 XK_InvalidPage_0 (hr.mono (by omega)) (by decide) (k_cons (r_ix (d_ixX hr.units) (r_name (i := 0)) r_int) k_nil)) (a_cons (r_excZ X_UnknownName (hr.mono (by omega)) (by decide) (a_cons (r_ix (d_ixX hr.units) (r_name (i := 0)) r_int) a_nil)) (a_cons (r_excZ0 X_NothingLeft (hr.mono (by omega))) a_nil)))))))))))))
theorem d__law_all {fd : FuncData} (F : FunD K "_law_all" "_law_all" (defArgs s__law_all) (defBody s__law_all) (defScope s__law_all) [] [] a__law_all fd) (O : FnOk P w K mg base (L2.CX P w) 4 a__law_all fd ["_law_some"] (spOf K mg 1 (defS 2 (m__law_all)))) : FZ P w K mg base 4 a__law_all f__law_all := fz_of0 O (F.bindsN (ps := ["_law_some"]) fun _ _ _ _ _ _ us hl => match us, hl with | [_], _ => rfl)
theorem o__law_bag (T : Tx K mg a__law_all a__law_bag a__law_field a__law_flags a__law_pick a__law_of a__law_same a_law C_WayError C_Missing C_InvalidRatio C_InvalidWorld C_InvalidElement C_InvalidText C_InvalidProgram C_InvalidPlan C_EmptyLoop C_InvalidStep C_InvalidReader C_WorldsDiffer C_TooMany C_InvalidName C_WrongKind C_CircularName C_InUse C_Breaks C_CapacityExceeded C_InvalidLimit C_InvalidCommand C_InvalidPage C_UnknownName C_NothingLeft) {fd : FuncData} (F : FunD K "_law_bag" "_law_bag" (defArgs s__law_bag) (defBody s__law_bag) (defScope s__law_bag) [] [] a__law_bag fd)  : FnOk P w K mg base (L2.CX P w) 1 a__law_bag fd ["_law_script"] (spOf K mg 1 (defH 1 (m__law_bag))) := by
  refine fn_okHD (N := ["_law_script"]) F sc__law_bag (k := 0) (body := m__law_bag) fun A outer s H E hr => ?_
  have tk : Takes (cxOf (L2.CX P w) P w K mg base ["_law_script"] "_law_bag" (defScope s__law_bag) a__law_bag fd.code A outer s H E) (fun c d _ H' => E c d H') := takes_of rfl rfl rfl rfl
  have hp : PassesOwn (model P w) (cxOf (L2.CX P w) P w K mg base ["_law_script"] "_law_bag" (defScope s__law_bag) a__law_bag fd.code A outer s H E).A (cxOf (L2.CX P w) P w K mg base ["_law_script"] "_law_bag" (defScope s__law_bag) a__law_bag fd.code A outer s H E).env (cxOf (L2.CX P w) P w K mg base ["_law_script"] "_law_bag" (defScope s__law_bag) a__law_bag fd.code A outer s H E).xe := passes_of rfl
  unfold m__law_bag
  exact (s_one (s_ret (r_lstH (a_cons (r_callT d_listOf rfl T.b_list PyProof.Rows.boot_list (a_cons (r_sl (r_name (i := 0)) o_none (o_int r_int)) a_nil)) (a_cons r_int (a_cons r_int (a_cons r_int a_nil)))))))
theorem d__law_bag {fd : FuncData} (F : FunD K "_law_bag" "_law_bag" (defArgs s__law_bag) (defBody s__law_bag) (defScope s__law_bag) [] [] a__law_bag fd) (O : FnOk P w K mg base (L2.CX P w) 1 a__law_bag fd ["_law_script"] (spOf K mg 1 (defH 1 (m__law_bag)))) : FZ P w K mg base 1 a__law_bag f__law_bag := fz_of0 O (F.bindsN (ps := ["_law_script"]) fun _ _ _ _ _ _ us hl => match us, hl with | [_], _ => rfl)
theorem o__law_field (T : Tx K mg a__law_all a__law_bag a__law_field a__law_flags a__law_pick a__law_of a__law_same a_law C_WayError C_Missing C_InvalidRatio C_InvalidWorld C_InvalidElement C_InvalidText C_InvalidProgram C_InvalidPlan C_EmptyLoop C_InvalidStep C_InvalidReader C_WorldsDiffer C_TooMany C_InvalidName C_WrongKind C_CircularName C_InUse C_Breaks C_CapacityExceeded C_InvalidLimit C_InvalidCommand C_InvalidPage C_UnknownName C_NothingLeft) {fd : FuncData} (F : FunD K "_law_field" "_law_field" (defArgs s__law_field) (defBody s__law_field) (defScope s__law_field) [] [] a__law_field fd)  : FnOk P w K mg base (L2.CX P w) 1 a__law_field fd ["_law_e"] (spOf K mg 1 (defS 1 (m__law_field))) := by
  refine fn_okD (N := ["_law_e"]) F sc__law_field (k := 0) (body := m__law_field) fun A outer s H E hr => ?_
  have tk : Takes (cxOf (L2.CX P w) P w K mg base ["_law_e"] "_law_field" (defScope s__law_field) a__law_field fd.code A outer s H E) (fun c d _ H' => E c d H') := takes_of rfl rfl rfl rfl
  have hp : PassesOwn (model P w) (cxOf (L2.CX P w) P w K mg base ["_law_e"] "_law_field" (defScope s__law_field) a__law_field fd.code A outer s H E).A (cxOf (L2.CX P w) P w K mg base ["_law_e"] "_law_field" (defScope s__law_field) a__law_field fd.code A outer s H E).env (cxOf (L2.CX P w) P w K mg base ["_law_e"] "_law_field" (defScope s__law_field) a__law_field fd.code A outer s H E).xe := passes_of rfl
  unfold m__law_field
  exact (s_cons (s_if (b_cmp (d_inX hr.units) (r_xat (xat_cons T.m_InvalidRatio T.xf_InvalidRatio T.xn_InvalidRatio_tag (xat_cons T.m_InvalidWorld T.xf_InvalidWorld T.xn_InvalidWorld_tag (xat_cons T.m_InvalidElement T.xf_InvalidElement T.xn_InvalidElement_tag (xat_cons T.m_InvalidText T.xf_InvalidText T.xn_InvalidText_tag (xat_cons T.m_InvalidProgram T.xf_InvalidProgram T.xn_InvalidProgram_tag (xat_cons T.m_InvalidPlan T.xf_InvalidPlan T.xn_InvalidPlan_tag (xat_cons T.m_EmptyLoop T.xf_EmptyLoop T.xn_EmptyLoop_tag (xat_cons T.m_InvalidStep T.xf_InvalidStep T.xn_InvalidStep_tag (xat_cons T.m_InvalidReader T.xf_InvalidReader T.xn_InvalidReader_tag (xat_cons T.m_WorldsDiffer T.xf_WorldsDiffer T.xn_WorldsDiffer_tag (xat_cons T.m_TooMany T.xf_TooMany T.xn_TooMany_tag (xat_cons T.m_InvalidName T.xf_InvalidName T.xn_InvalidName_tag (xat_cons T.m_WrongKind T.xf_WrongKind T.xn_WrongKind_tag (xat_cons T.m_CircularName T.xf_CircularName T.xn_CircularName_tag (xat_cons T.m_InUse T.xf_InUse T.xn_InUse_tag (xat_cons T.m_Breaks T.xf_Breaks T.xn_Breaks_tag (xat_cons T.m_CapacityExceeded T.xf_CapacityExceeded T.xn_CapacityExceeded_tag (xat_cons T.m_InvalidLimit T.xf_InvalidLimit T.xn_InvalidLimit_tag (xat_cons T.m_InvalidCommand T.xf_InvalidCommand T.xn_InvalidCommand_tag (xat_cons T.m_InvalidPage T.xf_InvalidPage T.xn_InvalidPage_tag (xat_cons T.m_UnknownName T.xf_UnknownName T.xn_UnknownName_tag (xat_cons T.m_NothingLeft T.xf_NothingLeft T.xn_NothingLeft_tag xat_nil)))))))))))))))))))))) (r_name (i := 0))) (r_tup (a_cons r_str (a_cons r_str (a_cons r_str (a_cons r_str (a_cons r_str a_nil)))))))
  (s_one (s_ret (r_xat (xat_cons T.m_InvalidRatio T.xf_InvalidRatio T.xn_InvalidRatio_value (xat_cons T.m_InvalidWorld T.xf_InvalidWorld T.xn_InvalidWorld_value (xat_cons T.m_InvalidElement T.xf_InvalidElement T.xn_InvalidElement_value (xat_cons T.m_InvalidStep T.xf_InvalidStep T.xn_InvalidStep_value (xat_cons T.m_InvalidLimit T.xf_InvalidLimit T.xn_InvalidLimit_value xat_nil))))) (r_name (i := 0)))))
  s_nil)
  (s_cons (s_if (b_cmp (d_inX hr.units) (r_xat (xat_cons T.m_InvalidRatio T.xf_InvalidRatio T.xn_InvalidRatio_tag (xat_cons T.m_InvalidWorld T.xf_InvalidWorld T.xn_InvalidWorld_tag (xat_cons T.m_InvalidElement T.xf_InvalidElement T.xn_InvalidElement_tag (xat_cons T.m_InvalidText T.xf_InvalidText T.xn_InvalidText_tag (xat_cons T.m_InvalidProgram T.xf_InvalidProgram T.xn_InvalidProgram_tag (xat_cons T.m_InvalidPlan T.xf_InvalidPlan T.xn_InvalidPlan_tag (xat_cons T.m_EmptyLoop T.xf_EmptyLoop T.xn_EmptyLoop_tag (xat_cons T.m_InvalidStep T.xf_InvalidStep T.xn_InvalidStep_tag (xat_cons T.m_InvalidReader T.xf_InvalidReader T.xn_InvalidReader_tag (xat_cons T.m_WorldsDiffer T.xf_WorldsDiffer T.xn_WorldsDiffer_tag (xat_cons T.m_TooMany T.xf_TooMany T.xn_TooMany_tag (xat_cons T.m_InvalidName T.xf_InvalidName T.xn_InvalidName_tag (xat_cons T.m_WrongKind T.xf_WrongKind T.xn_WrongKind_tag (xat_cons T.m_CircularName T.xf_CircularName T.xn_CircularName_tag (xat_cons T.m_InUse T.xf_InUse T.xn_InUse_tag (xat_cons T.m_Breaks T.xf_Breaks T.xn_Breaks_tag (xat_cons T.m_CapacityExceeded T.xf_CapacityExceeded T.xn_CapacityExceeded_tag (xat_cons T.m_InvalidLimit T.xf_InvalidLimit T.xn_InvalidLimit_tag (xat_cons T.m_InvalidCommand T.xf_InvalidCommand T.xn_InvalidCommand_tag (xat_cons T.m_InvalidPage T.xf_InvalidPage T.xn_InvalidPage_tag (xat_cons T.m_UnknownName T.xf_UnknownName T.xn_UnknownName_tag (xat_cons T.m_NothingLeft T.xf_NothingLeft T.xn_NothingLeft_tag xat_nil)))))))))))))))))))))) (r_name (i := 0))) (r_tup (a_cons r_str (a_cons r_str (a_cons r_str (a_cons r_str a_nil))))))
  (s_one (s_ret (r_xat (xat_cons T.m_InvalidName T.xf_InvalidName T.xn_InvalidName_name (xat_cons T.m_WrongKind T.xf_WrongKind T.xn_WrongKind_name (xat_cons T.m_CircularName T.xf_CircularName T.xn_CircularName_name (xat_cons T.m_UnknownName T.xf_UnknownName T.xn_UnknownName_name xat_nil)))) (r_name (i := 0)))))
  s_nil)
  (s_cons (s_if (b_cmp (d_inX hr.units) (r_xat (xat_cons T.m_InvalidRatio T.xf_InvalidRatio T.xn_InvalidRatio_tag (xat_cons T.m_InvalidWorld T.xf_InvalidWorld T.xn_InvalidWorld_tag (xat_cons T.m_InvalidElement T.xf_InvalidElement T.xn_InvalidElement_tag (xat_cons T.m_InvalidText T.xf_InvalidText T.xn_InvalidText_tag (xat_cons T.m_InvalidProgram T.xf_InvalidProgram T.xn_InvalidProgram_tag (xat_cons T.m_InvalidPlan T.xf_InvalidPlan T.xn_InvalidPlan_tag (xat_cons T.m_EmptyLoop T.xf_EmptyLoop T.xn_EmptyLoop_tag (xat_cons T.m_InvalidStep T.xf_InvalidStep T.xn_InvalidStep_tag (xat_cons T.m_InvalidReader T.xf_InvalidReader T.xn_InvalidReader_tag (xat_cons T.m_WorldsDiffer T.xf_WorldsDiffer T.xn_WorldsDiffer_tag (xat_cons T.m_TooMany T.xf_TooMany T.xn_TooMany_tag (xat_cons T.m_InvalidName T.xf_InvalidName T.xn_InvalidName_tag (xat_cons T.m_WrongKind T.xf_WrongKind T.xn_WrongKind_tag (xat_cons T.m_CircularName T.xf_CircularName T.xn_CircularName_tag (xat_cons T.m_InUse T.xf_InUse T.xn_InUse_tag (xat_cons T.m_Breaks T.xf_Breaks T.xn_Breaks_tag (xat_cons T.m_CapacityExceeded T.xf_CapacityExceeded T.xn_CapacityExceeded_tag (xat_cons T.m_InvalidLimit T.xf_InvalidLimit T.xn_InvalidLimit_tag (xat_cons T.m_InvalidCommand T.xf_InvalidCommand T.xn_InvalidCommand_tag (xat_cons T.m_InvalidPage T.xf_InvalidPage T.xn_InvalidPage_tag (xat_cons T.m_UnknownName T.xf_UnknownName T.xn_UnknownName_tag (xat_cons T.m_NothingLeft T.xf_NothingLeft T.xn_NothingLeft_tag xat_nil)))))))))))))))))))))) (r_name (i := 0))) (r_tup (a_cons r_str (a_cons r_str a_nil))))
  (s_one (s_ret (r_xat (xat_cons T.m_InvalidPlan T.xf_InvalidPlan T.xn_InvalidPlan_path (xat_cons T.m_EmptyLoop T.xf_EmptyLoop T.xn_EmptyLoop_path xat_nil)) (r_name (i := 0)))))
  s_nil)
  (s_cons (s_if (b_cmp (d_inX hr.units) (r_xat (xat_cons T.m_InvalidRatio T.xf_InvalidRatio T.xn_InvalidRatio_tag (xat_cons T.m_InvalidWorld T.xf_InvalidWorld T.xn_InvalidWorld_tag (xat_cons T.m_InvalidElement T.xf_InvalidElement T.xn_InvalidElement_tag (xat_cons T.m_InvalidText T.xf_InvalidText T.xn_InvalidText_tag (xat_cons T.m_InvalidProgram T.xf_InvalidProgram T.xn_InvalidProgram_tag (xat_cons T.m_InvalidPlan T.xf_InvalidPlan T.xn_InvalidPlan_tag (xat_cons T.m_EmptyLoop T.xf_EmptyLoop T.xn_EmptyLoop_tag (xat_cons T.m_InvalidStep T.xf_InvalidStep T.xn_InvalidStep_tag (xat_cons T.m_InvalidReader T.xf_InvalidReader T.xn_InvalidReader_tag (xat_cons T.m_WorldsDiffer T.xf_WorldsDiffer T.xn_WorldsDiffer_tag (xat_cons T.m_TooMany T.xf_TooMany T.xn_TooMany_tag (xat_cons T.m_InvalidName T.xf_InvalidName T.xn_InvalidName_tag (xat_cons T.m_WrongKind T.xf_WrongKind T.xn_WrongKind_tag (xat_cons T.m_CircularName T.xf_CircularName T.xn_CircularName_tag (xat_cons T.m_InUse T.xf_InUse T.xn_InUse_tag (xat_cons T.m_Breaks T.xf_Breaks T.xn_Breaks_tag (xat_cons T.m_CapacityExceeded T.xf_CapacityExceeded T.xn_CapacityExceeded_tag (xat_cons T.m_InvalidLimit T.xf_InvalidLimit T.xn_InvalidLimit_tag (xat_cons T.m_InvalidCommand T.xf_InvalidCommand T.xn_InvalidCommand_tag (xat_cons T.m_InvalidPage T.xf_InvalidPage T.xn_InvalidPage_tag (xat_cons T.m_UnknownName T.xf_UnknownName T.xn_UnknownName_tag (xat_cons T.m_NothingLeft T.xf_NothingLeft T.xn_NothingLeft_tag xat_nil)))))))))))))))))))))) (r_name (i := 0))) (r_tup (a_cons r_str (a_cons r_str a_nil))))
  (s_one (s_ret (r_xat (xat_cons T.m_TooMany T.xf_TooMany T.xn_TooMany_limit (xat_cons T.m_CapacityExceeded T.xf_CapacityExceeded T.xn_CapacityExceeded_limit xat_nil)) (r_name (i := 0)))))
  s_nil)
  (s_cons (s_if (b_cmp (d_inX hr.units) (r_xat (xat_cons T.m_InvalidRatio T.xf_InvalidRatio T.xn_InvalidRatio_tag (xat_cons T.m_InvalidWorld T.xf_InvalidWorld T.xn_InvalidWorld_tag (xat_cons T.m_InvalidElement T.xf_InvalidElement T.xn_InvalidElement_tag (xat_cons T.m_InvalidText T.xf_InvalidText T.xn_InvalidText_tag (xat_cons T.m_InvalidProgram T.xf_InvalidProgram T.xn_InvalidProgram_tag (xat_cons T.m_InvalidPlan T.xf_InvalidPlan T.xn_InvalidPlan_tag (xat_cons T.m_EmptyLoop T.xf_EmptyLoop T.xn_EmptyLoop_tag (xat_cons T.m_InvalidStep T.xf_InvalidStep T.xn_InvalidStep_tag (xat_cons T.m_InvalidReader T.xf_InvalidReader T.xn_InvalidReader_tag (xat_cons T.m_WorldsDiffer T.xf_WorldsDiffer T.xn_WorldsDiffer_tag (xat_cons T.m_TooMany T.xf_TooMany T.xn_TooMany_tag (xat_cons T.m_InvalidName T.xf_InvalidName T.xn_InvalidName_tag (xat_cons T.m_WrongKind T.xf_WrongKind T.xn_WrongKind_tag (xat_cons T.m_CircularName T.xf_CircularName T.xn_CircularName_tag (xat_cons T.m_InUse T.xf_InUse T.xn_InUse_tag (xat_cons T.m_Breaks T.xf_Breaks T.xn_Breaks_tag (xat_cons T.m_CapacityExceeded T.xf_CapacityExceeded T.xn_CapacityExceeded_tag (xat_cons T.m_InvalidLimit T.xf_InvalidLimit T.xn_InvalidLimit_tag (xat_cons T.m_InvalidCommand T.xf_InvalidCommand T.xn_InvalidCommand_tag (xat_cons T.m_InvalidPage T.xf_InvalidPage T.xn_InvalidPage_tag (xat_cons T.m_UnknownName T.xf_UnknownName T.xn_UnknownName_tag (xat_cons T.m_NothingLeft T.xf_NothingLeft T.xn_NothingLeft_tag xat_nil)))))))))))))))))))))) (r_name (i := 0))) (r_tup (a_cons r_str (a_cons r_str a_nil))))
  (s_one (s_ret (r_if (b_cmp (d_eq hr.units) (r_xat (xat_cons T.m_InvalidRatio T.xf_InvalidRatio T.xn_InvalidRatio_tag (xat_cons T.m_InvalidWorld T.xf_InvalidWorld T.xn_InvalidWorld_tag (xat_cons T.m_InvalidElement T.xf_InvalidElement T.xn_InvalidElement_tag (xat_cons T.m_InvalidText T.xf_InvalidText T.xn_InvalidText_tag (xat_cons T.m_InvalidProgram T.xf_InvalidProgram T.xn_InvalidProgram_tag (xat_cons T.m_InvalidPlan T.xf_InvalidPlan T.xn_InvalidPlan_tag (xat_cons T.m_EmptyLoop T.xf_EmptyLoop T.xn_EmptyLoop_tag (xat_cons T.m_InvalidStep T.xf_InvalidStep T.xn_InvalidStep_tag (xat_cons T.m_InvalidReader T.xf_InvalidReader T.xn_InvalidReader_tag (xat_cons T.m_WorldsDiffer T.xf_WorldsDiffer T.xn_WorldsDiffer_tag (xat_cons T.m_TooMany T.xf_TooMany T.xn_TooMany_tag (xat_cons T.m_InvalidName T.xf_InvalidName T.xn_InvalidName_tag (xat_cons T.m_WrongKind T.xf_WrongKind T.xn_WrongKind_tag (xat_cons T.m_CircularName T.xf_CircularName T.xn_CircularName_tag (xat_cons T.m_InUse T.xf_InUse T.xn_InUse_tag (xat_cons T.m_Breaks T.xf_Breaks T.xn_Breaks_tag (xat_cons T.m_CapacityExceeded T.xf_CapacityExceeded T.xn_CapacityExceeded_tag (xat_cons T.m_InvalidLimit T.xf_InvalidLimit T.xn_InvalidLimit_tag (xat_cons T.m_InvalidCommand T.xf_InvalidCommand T.xn_InvalidCommand_tag (xat_cons T.m_InvalidPage T.xf_InvalidPage T.xn_InvalidPage_tag (xat_cons T.m_UnknownName T.xf_UnknownName T.xn_UnknownName_tag (xat_cons T.m_NothingLeft T.xf_NothingLeft T.xn_NothingLeft_tag xat_nil)))))))))))))))))))))) (r_name (i := 0))) r_str) (r_xat (xat_cons T.m_InvalidText T.xf_InvalidText T.xn_InvalidText_given xat_nil) (r_name (i := 0))) (r_xat (xat_cons T.m_InvalidProgram T.xf_InvalidProgram T.xn_InvalidProgram_part xat_nil) (r_name (i := 0))))))
  s_nil)
  (s_cons (s_if (b_cmp (d_inX hr.units) (r_xat (xat_cons T.m_InvalidRatio T.xf_InvalidRatio T.xn_InvalidRatio_tag (xat_cons T.m_InvalidWorld T.xf_InvalidWorld T.xn_InvalidWorld_tag (xat_cons T.m_InvalidElement T.xf_InvalidElement T.xn_InvalidElement_tag (xat_cons T.m_InvalidText T.xf_InvalidText T.xn_InvalidText_tag (xat_cons T.m_InvalidProgram T.xf_InvalidProgram T.xn_InvalidProgram_tag (xat_cons T.m_InvalidPlan T.xf_InvalidPlan T.xn_InvalidPlan_tag (xat_cons T.m_EmptyLoop T.xf_EmptyLoop T.xn_EmptyLoop_tag (xat_cons T.m_InvalidStep T.xf_InvalidStep T.xn_InvalidStep_tag (xat_cons T.m_InvalidReader T.xf_InvalidReader T.xn_InvalidReader_tag (xat_cons T.m_WorldsDiffer T.xf_WorldsDiffer T.xn_WorldsDiffer_tag (xat_cons T.m_TooMany T.xf_TooMany T.xn_TooMany_tag (xat_cons T.m_InvalidName T.xf_InvalidName T.xn_InvalidName_tag (xat_cons T.m_WrongKind T.xf_WrongKind T.xn_WrongKind_tag (xat_cons T.m_CircularName T.xf_CircularName T.xn_CircularName_tag (xat_cons T.m_InUse T.xf_InUse T.xn_InUse_tag (xat_cons T.m_Breaks T.xf_Breaks T.xn_Breaks_tag (xat_cons T.m_CapacityExceeded T.xf_CapacityExceeded T.xn_CapacityExceeded_tag (xat_cons T.m_InvalidLimit T.xf_InvalidLimit T.xn_InvalidLimit_tag (xat_cons T.m_InvalidCommand T.xf_InvalidCommand T.xn_InvalidCommand_tag (xat_cons T.m_InvalidPage T.xf_InvalidPage T.xn_InvalidPage_tag (xat_cons T.m_UnknownName T.xf_UnknownName T.xn_UnknownName_tag (xat_cons T.m_NothingLeft T.xf_NothingLeft T.xn_NothingLeft_tag xat_nil)))))))))))))))))))))) (r_name (i := 0))) (r_tup (a_cons r_str (a_cons r_str a_nil))))
  (s_one (s_ret (r_if (b_cmp (d_eq hr.units) (r_xat (xat_cons T.m_InvalidRatio T.xf_InvalidRatio T.xn_InvalidRatio_tag (xat_cons T.m_InvalidWorld T.xf_InvalidWorld T.xn_InvalidWorld_tag (xat_cons T.m_InvalidElement T.xf_InvalidElement T.xn_InvalidElement_tag (xat_cons T.m_InvalidText T.xf_InvalidText T.xn_InvalidText_tag (xat_cons T.m_InvalidProgram T.xf_InvalidProgram T.xn_InvalidProgram_tag (xat_cons T.m_InvalidPlan T.xf_InvalidPlan T.xn_InvalidPlan_tag (xat_cons T.m_EmptyLoop T.xf_EmptyLoop T.xn_EmptyLoop_tag (xat_cons T.m_InvalidStep T.xf_InvalidStep T.xn_InvalidStep_tag (xat_cons T.m_InvalidReader T.xf_InvalidReader T.xn_InvalidReader_tag (xat_cons T.m_WorldsDiffer T.xf_WorldsDiffer T.xn_WorldsDiffer_tag (xat_cons T.m_TooMany T.xf_TooMany T.xn_TooMany_tag (xat_cons T.m_InvalidName T.xf_InvalidName T.xn_InvalidName_tag (xat_cons T.m_WrongKind T.xf_WrongKind T.xn_WrongKind_tag (xat_cons T.m_CircularName T.xf_CircularName T.xn_CircularName_tag (xat_cons T.m_InUse T.xf_InUse T.xn_InUse_tag (xat_cons T.m_Breaks T.xf_Breaks T.xn_Breaks_tag (xat_cons T.m_CapacityExceeded T.xf_CapacityExceeded T.xn_CapacityExceeded_tag (xat_cons T.m_InvalidLimit T.xf_InvalidLimit T.xn_InvalidLimit_tag (xat_cons T.m_InvalidCommand T.xf_InvalidCommand T.xn_InvalidCommand_tag (xat_cons T.m_InvalidPage T.xf_InvalidPage T.xn_InvalidPage_tag (xat_cons T.m_UnknownName T.xf_UnknownName T.xn_UnknownName_tag (xat_cons T.m_NothingLeft T.xf_NothingLeft T.xn_NothingLeft_tag xat_nil)))))))))))))))))))))) (r_name (i := 0))) r_str) (r_xat (xat_cons T.m_InUse T.xf_InUse T.xn_InUse_user (xat_cons T.m_Breaks T.xf_Breaks T.xn_Breaks_user xat_nil)) (r_name (i := 0))) (r_tup (a_cons (r_xat (xat_cons T.m_InUse T.xf_InUse T.xn_InUse_user (xat_cons T.m_Breaks T.xf_Breaks T.xn_Breaks_user xat_nil)) (r_name (i := 0))) (a_cons (r_xat (xat_cons T.m_Breaks T.xf_Breaks T.xn_Breaks_word (xat_cons T.m_InvalidCommand T.xf_InvalidCommand T.xn_InvalidCommand_word xat_nil)) (r_name (i := 0))) a_nil))))))
  s_nil)
  (s_cons (s_if (b_cmp (d_inX hr.units) (r_xat (xat_cons T.m_InvalidRatio T.xf_InvalidRatio T.xn_InvalidRatio_tag (xat_cons T.m_InvalidWorld T.xf_InvalidWorld T.xn_InvalidWorld_tag (xat_cons T.m_InvalidElement T.xf_InvalidElement T.xn_InvalidElement_tag (xat_cons T.m_InvalidText T.xf_InvalidText T.xn_InvalidText_tag (xat_cons T.m_InvalidProgram T.xf_InvalidProgram T.xn_InvalidProgram_tag (xat_cons T.m_InvalidPlan T.xf_InvalidPlan T.xn_InvalidPlan_tag (xat_cons T.m_EmptyLoop T.xf_EmptyLoop T.xn_EmptyLoop_tag (xat_cons T.m_InvalidStep T.xf_InvalidStep T.xn_InvalidStep_tag (xat_cons T.m_InvalidReader T.xf_InvalidReader T.xn_InvalidReader_tag (xat_cons T.m_WorldsDiffer T.xf_WorldsDiffer T.xn_WorldsDiffer_tag (xat_cons T.m_TooMany T.xf_TooMany T.xn_TooMany_tag (xat_cons T.m_InvalidName T.xf_InvalidName T.xn_InvalidName_tag (xat_cons T.m_WrongKind T.xf_WrongKind T.xn_WrongKind_tag (xat_cons T.m_CircularName T.xf_CircularName T.xn_CircularName_tag (xat_cons T.m_InUse T.xf_InUse T.xn_InUse_tag (xat_cons T.m_Breaks T.xf_Breaks T.xn_Breaks_tag (xat_cons T.m_CapacityExceeded T.xf_CapacityExceeded T.xn_CapacityExceeded_tag (xat_cons T.m_InvalidLimit T.xf_InvalidLimit T.xn_InvalidLimit_tag (xat_cons T.m_InvalidCommand T.xf_InvalidCommand T.xn_InvalidCommand_tag (xat_cons T.m_InvalidPage T.xf_InvalidPage T.xn_InvalidPage_tag (xat_cons T.m_UnknownName T.xf_UnknownName T.xn_UnknownName_tag (xat_cons T.m_NothingLeft T.xf_NothingLeft T.xn_NothingLeft_tag xat_nil)))))))))))))))))))))) (r_name (i := 0))) (r_tup (a_cons r_str (a_cons r_str a_nil))))
  (s_one (s_ret (r_if (b_cmp (d_eq hr.units) (r_xat (xat_cons T.m_InvalidRatio T.xf_InvalidRatio T.xn_InvalidRatio_tag (xat_cons T.m_InvalidWorld T.xf_InvalidWorld T.xn_InvalidWorld_tag (xat_cons T.m_InvalidElement T.xf_InvalidElement T.xn_InvalidElement_tag (xat_cons T.m_InvalidText T.xf_InvalidText T.xn_InvalidText_tag (xat_cons T.m_InvalidProgram T.xf_InvalidProgram T.xn_InvalidProgram_tag (xat_cons T.m_InvalidPlan T.xf_InvalidPlan T.xn_InvalidPlan_tag (xat_cons T.m_EmptyLoop T.xf_EmptyLoop T.xn_EmptyLoop_tag (xat_cons T.m_InvalidStep T.xf_InvalidStep T.xn_InvalidStep_tag (xat_cons T.m_InvalidReader T.xf_InvalidReader T.xn_InvalidReader_tag (xat_cons T.m_WorldsDiffer T.xf_WorldsDiffer T.xn_WorldsDiffer_tag (xat_cons T.m_TooMany T.xf_TooMany T.xn_TooMany_tag (xat_cons T.m_InvalidName T.xf_InvalidName T.xn_InvalidName_tag (xat_cons T.m_WrongKind T.xf_WrongKind T.xn_WrongKind_tag (xat_cons T.m_CircularName T.xf_CircularName T.xn_CircularName_tag (xat_cons T.m_InUse T.xf_InUse T.xn_InUse_tag (xat_cons T.m_Breaks T.xf_Breaks T.xn_Breaks_tag (xat_cons T.m_CapacityExceeded T.xf_CapacityExceeded T.xn_CapacityExceeded_tag (xat_cons T.m_InvalidLimit T.xf_InvalidLimit T.xn_InvalidLimit_tag (xat_cons T.m_InvalidCommand T.xf_InvalidCommand T.xn_InvalidCommand_tag (xat_cons T.m_InvalidPage T.xf_InvalidPage T.xn_InvalidPage_tag (xat_cons T.m_UnknownName T.xf_UnknownName T.xn_UnknownName_tag (xat_cons T.m_NothingLeft T.xf_NothingLeft T.xn_NothingLeft_tag xat_nil)))))))))))))))))))))) (r_name (i := 0))) r_str) (r_xat (xat_cons T.m_Breaks T.xf_Breaks T.xn_Breaks_word (xat_cons T.m_InvalidCommand T.xf_InvalidCommand T.xn_InvalidCommand_word xat_nil)) (r_name (i := 0))) (r_xat (xat_cons T.m_InvalidPage T.xf_InvalidPage T.xn_InvalidPage_line xat_nil) (r_name (i := 0))))))
  s_nil)
  (s_one (s_ret (r_if (b_cmp (d_eq hr.units) (r_xat (xat_cons T.m_InvalidRatio T.xf_InvalidRatio T.xn_InvalidRatio_tag (xat_cons T.m_InvalidWorld T.xf_InvalidWorld T.xn_InvalidWorld_tag (xat_cons T.m_InvalidElement T.xf_InvalidElement T.xn_InvalidElement_tag (xat_cons T.m_InvalidText T.xf_InvalidText T.xn_InvalidText_tag (xat_cons T.m_InvalidProgram T.xf_InvalidProgram T.xn_InvalidProgram_tag (xat_cons T.m_InvalidPlan T.xf_InvalidPlan T.xn_InvalidPlan_tag (xat_cons T.m_EmptyLoop T.xf_EmptyLoop T.xn_EmptyLoop_tag (xat_cons T.m_InvalidStep T.xf_InvalidStep T.xn_InvalidStep_tag (xat_cons T.m_InvalidReader T.xf_InvalidReader T.xn_InvalidReader_tag (xat_cons T.m_WorldsDiffer T.xf_WorldsDiffer T.xn_WorldsDiffer_tag (xat_cons T.m_TooMany T.xf_TooMany T.xn_TooMany_tag (xat_cons T.m_InvalidName T.xf_InvalidName T.xn_InvalidName_tag (xat_cons T.m_WrongKind T.xf_WrongKind T.xn_WrongKind_tag (xat_cons T.m_CircularName T.xf_CircularName T.xn_CircularName_tag (xat_cons T.m_InUse T.xf_InUse T.xn_InUse_tag (xat_cons T.m_Breaks T.xf_Breaks T.xn_Breaks_tag (xat_cons T.m_CapacityExceeded T.xf_CapacityExceeded T.xn_CapacityExceeded_tag (xat_cons T.m_InvalidLimit T.xf_InvalidLimit T.xn_InvalidLimit_tag (xat_cons T.m_InvalidCommand T.xf_InvalidCommand T.xn_InvalidCommand_tag (xat_cons T.m_InvalidPage T.xf_InvalidPage T.xn_InvalidPage_tag (xat_cons T.m_UnknownName T.xf_UnknownName T.xn_UnknownName_tag (xat_cons T.m_NothingLeft T.xf_NothingLeft T.xn_NothingLeft_tag xat_nil)))))))))))))))))))))) (r_name (i := 0))) r_str) (r_xat (xat_cons T.m_InvalidReader T.xf_InvalidReader T.xn_InvalidReader_place xat_nil) (r_name (i := 0))) r_non))))))))))
theorem d__law_field {fd : FuncData} (F : FunD K "_law_field" "_law_field" (defArgs s__law_field) (defBody s__law_field) (defScope s__law_field) [] [] a__law_field fd) (O : FnOk P w K mg base (L2.CX P w) 1 a__law_field fd ["_law_e"] (spOf K mg 1 (defS 1 (m__law_field)))) : FZ P w K mg base 1 a__law_field f__law_field := fz_of0 O (F.bindsN (ps := ["_law_e"]) fun _ _ _ _ _ _ us hl => match us, hl with | [_], _ => rfl)
theorem o__law_flags (T : Tx K mg a__law_all a__law_bag a__law_field a__law_flags a__law_pick a__law_of a__law_same a_law C_WayError C_Missing C_InvalidRatio C_InvalidWorld C_InvalidElement C_InvalidText C_InvalidProgram C_InvalidPlan C_EmptyLoop C_InvalidStep C_InvalidReader C_WorldsDiffer C_TooMany C_InvalidName C_WrongKind C_CircularName C_InUse C_Breaks C_CapacityExceeded C_InvalidLimit C_InvalidCommand C_InvalidPage C_UnknownName C_NothingLeft) {fd : FuncData} (F : FunD K "_law_flags" "_law_flags" (defArgs s__law_flags) (defBody s__law_flags) (defScope s__law_flags) [] [] a__law_flags fd)  : FnOk P w K mg base (L2.CX P w) 1 a__law_flags fd ["_law_e"] (spOf K mg 1 (defS 2 (m__law_flags))) := by
  refine fn_okD (N := ["_law_e", "_law_found"]) F sc__law_flags (k := 0) (body := m__law_flags) fun A outer s H E hr => ?_
  have tk : Takes (cxOf (L2.CX P w) P w K mg base ["_law_e", "_law_found"] "_law_flags" (defScope s__law_flags) a__law_flags fd.code A outer s H E) (fun c d _ H' => E c d H') := takes_of rfl rfl rfl rfl
  have hp : PassesOwn (model P w) (cxOf (L2.CX P w) P w K mg base ["_law_e", "_law_found"] "_law_flags" (defScope s__law_flags) a__law_flags fd.code A outer s H E).A (cxOf (L2.CX P w) P w K mg base ["_law_e", "_law_found"] "_law_flags" (defScope s__law_flags) a__law_flags fd.code A outer s H E).env (cxOf (L2.CX P w) P w K mg base ["_law_e", "_law_found"] "_law_flags" (defScope s__law_flags) a__law_flags fd.code A outer s H E).xe := passes_of rfl
  unfold m__law_flags
  exact (s_cons (s_set (i := 1) sc__law_flags.nd (r_lst (a_cons (r_callB (ow_isX T.ix_InvalidRatio) rfl T.b_isinstance PyProof.Rows.boot_isinstance (a_cons (r_name (i := 0)) (a_cons (r_cls rfl T.m_InvalidRatio) a_nil))) (a_cons (r_callB (ow_isX T.ix_InvalidWorld) rfl T.b_isinstance PyProof.Rows.boot_isinstance (a_cons (r_name (i := 0)) (a_cons (r_cls rfl T.m_InvalidWorld) a_nil))) (a_cons (r_callB (ow_isX T.ix_InvalidElement) rfl T.b_isinstance PyProof.Rows.boot_isinstance (a_cons (r_name (i := 0)) (a_cons (r_cls rfl T.m_InvalidElement) a_nil))) a_nil)))))
  (s_cons (s_set (i := 1) sc__law_flags.nd (r_bin d_addX (r_name (i := 1)) (r_lst (a_cons (r_callB (ow_isX T.ix_InvalidText) rfl T.b_isinstance PyProof.Rows.boot_isinstance (a_cons (r_name (i := 0)) (a_cons (r_cls rfl T.m_InvalidText) a_nil))) (a_cons (r_callB (ow_isX T.ix_InvalidProgram) rfl T.b_isinstance PyProof.Rows.boot_isinstance (a_cons (r_name (i := 0)) (a_cons (r_cls rfl T.m_InvalidProgram) a_nil))) (a_cons (r_callB (ow_isX T.ix_InvalidPlan) rfl T.b_isinstance PyProof.Rows.boot_isinstance (a_cons (r_name (i := 0)) (a_cons (r_cls rfl T.m_InvalidPlan) a_nil))) a_nil))))))
  (s_cons (s_set (i := 1) sc__law_flags.nd (r_bin d_addX (r_name (i := 1)) (r_lst (a_cons (r_callB (ow_isX T.ix_EmptyLoop) rfl T.b_isinstance PyProof.Rows.boot_isinstance (a_cons (r_name (i := 0)) (a_cons (r_cls rfl T.m_EmptyLoop) a_nil))) (a_cons (r_callB (ow_isX T.ix_InvalidStep) rfl T.b_isinstance PyProof.Rows.boot_isinstance (a_cons (r_name (i := 0)) (a_cons (r_cls rfl T.m_InvalidStep) a_nil))) (a_cons (r_callB (ow_isX T.ix_InvalidReader) rfl T.b_isinstance PyProof.Rows.boot_isinstance (a_cons (r_name (i := 0)) (a_cons (r_cls rfl T.m_InvalidReader) a_nil))) a_nil))))))
  (s_cons (s_set (i := 1) sc__law_flags.nd (r_bin d_addX (r_name (i := 1)) (r_lst (a_cons (r_callB (ow_isX T.ix_WorldsDiffer) rfl T.b_isinstance PyProof.Rows.boot_isinstance (a_cons (r_name (i := 0)) (a_cons (r_cls rfl T.m_WorldsDiffer) a_nil))) (a_cons (r_callB (ow_isX T.ix_TooMany) rfl T.b_isinstance PyProof.Rows.boot_isinstance (a_cons (r_name (i := 0)) (a_cons (r_cls rfl T.m_TooMany) a_nil))) (a_cons (r_callB (ow_isX T.ix_InvalidName) rfl T.b_isinstance PyProof.Rows.boot_isinstance (a_cons (r_name (i := 0)) (a_cons (r_cls rfl T.m_InvalidName) a_nil))) a_nil))))))
  (s_cons (s_set (i := 1) sc__law_flags.nd (r_bin d_addX (r_name (i := 1)) (r_lst (a_cons (r_callB (ow_isX T.ix_WrongKind) rfl T.b_isinstance PyProof.Rows.boot_isinstance (a_cons (r_name (i := 0)) (a_cons (r_cls rfl T.m_WrongKind) a_nil))) (a_cons (r_callB (ow_isX T.ix_CircularName) rfl T.b_isinstance PyProof.Rows.boot_isinstance (a_cons (r_name (i := 0)) (a_cons (r_cls rfl T.m_CircularName) a_nil))) (a_cons (r_callB (ow_isX T.ix_InUse) rfl T.b_isinstance PyProof.Rows.boot_isinstance (a_cons (r_name (i := 0)) (a_cons (r_cls rfl T.m_InUse) a_nil))) a_nil))))))
  (s_cons (s_set (i := 1) sc__law_flags.nd (r_bin d_addX (r_name (i := 1)) (r_lst (a_cons (r_callB (ow_isX T.ix_Breaks) rfl T.b_isinstance PyProof.Rows.boot_isinstance (a_cons (r_name (i := 0)) (a_cons (r_cls rfl T.m_Breaks) a_nil))) (a_cons (r_callB (ow_isX T.ix_CapacityExceeded) rfl T.b_isinstance PyProof.Rows.boot_isinstance (a_cons (r_name (i := 0)) (a_cons (r_cls rfl T.m_CapacityExceeded) a_nil))) (a_cons (r_callB (ow_isX T.ix_InvalidLimit) rfl T.b_isinstance PyProof.Rows.boot_isinstance (a_cons (r_name (i := 0)) (a_cons (r_cls rfl T.m_InvalidLimit) a_nil))) a_nil))))))
  (s_cons (s_set (i := 1) sc__law_flags.nd (r_bin d_addX (r_name (i := 1)) (r_lst (a_cons (r_callB (ow_isX T.ix_InvalidCommand) rfl T.b_isinstance PyProof.Rows.boot_isinstance (a_cons (r_name (i := 0)) (a_cons (r_cls rfl T.m_InvalidCommand) a_nil))) (a_cons (r_callB (ow_isX T.ix_InvalidPage) rfl T.b_isinstance PyProof.Rows.boot_isinstance (a_cons (r_name (i := 0)) (a_cons (r_cls rfl T.m_InvalidPage) a_nil))) (a_cons (r_callB (ow_isX T.ix_UnknownName) rfl T.b_isinstance PyProof.Rows.boot_isinstance (a_cons (r_name (i := 0)) (a_cons (r_cls rfl T.m_UnknownName) a_nil))) a_nil))))))
  (s_cons (s_set (i := 1) sc__law_flags.nd (r_bin d_addX (r_name (i := 1)) (r_lst (a_cons (r_callB (ow_isX T.ix_NothingLeft) rfl T.b_isinstance PyProof.Rows.boot_isinstance (a_cons (r_name (i := 0)) (a_cons (r_cls rfl T.m_NothingLeft) a_nil))) (a_cons (r_callB (ow_isX T.ix_WayError) rfl T.b_isinstance PyProof.Rows.boot_isinstance (a_cons (r_name (i := 0)) (a_cons (r_cls rfl T.m_WayError) a_nil))) (a_cons (r_callB (ow_isX T.ix_ValueError) rfl T.b_isinstance PyProof.Rows.boot_isinstance (a_cons (r_name (i := 0)) (a_cons (r_ty rfl T.b_ValueError (by decide +kernel)) a_nil))) a_nil))))))
  (s_one (s_ret (r_bin d_addX (r_name (i := 1)) (r_lst (a_cons (r_callB (ow_isX T.ix_Missing) rfl T.b_isinstance PyProof.Rows.boot_isinstance (a_cons (r_name (i := 0)) (a_cons (r_cls rfl T.m_Missing) a_nil))) (a_cons (r_callB (ow_isX T.ix_LookupError) rfl T.b_isinstance PyProof.Rows.boot_isinstance (a_cons (r_name (i := 0)) (a_cons (r_ty rfl T.b_LookupError (by decide +kernel)) a_nil))) (a_cons (r_callB (ow_isX T.ix_IndexError) rfl T.b_isinstance PyProof.Rows.boot_isinstance (a_cons (r_name (i := 0)) (a_cons (r_ty rfl T.b_IndexError (by decide +kernel)) a_nil))) a_nil)))))))))))))))
theorem d__law_flags {fd : FuncData} (F : FunD K "_law_flags" "_law_flags" (defArgs s__law_flags) (defBody s__law_flags) (defScope s__law_flags) [] [] a__law_flags fd) (O : FnOk P w K mg base (L2.CX P w) 1 a__law_flags fd ["_law_e"] (spOf K mg 1 (defS 2 (m__law_flags)))) : FZ P w K mg base 1 a__law_flags f__law_flags := fz_of0 O (F.bindsN (ps := ["_law_e"]) fun _ _ _ _ _ _ us hl => match us, hl with | [_], _ => rfl)
theorem o__law_pick (T : Tx K mg a__law_all a__law_bag a__law_field a__law_flags a__law_pick a__law_of a__law_same a_law C_WayError C_Missing C_InvalidRatio C_InvalidWorld C_InvalidElement C_InvalidText C_InvalidProgram C_InvalidPlan C_EmptyLoop C_InvalidStep C_InvalidReader C_WorldsDiffer C_TooMany C_InvalidName C_WrongKind C_CircularName C_InUse C_Breaks C_CapacityExceeded C_InvalidLimit C_InvalidCommand C_InvalidPage C_UnknownName C_NothingLeft) {fd : FuncData} (F : FunD K "_law_pick" "_law_pick" (defArgs s__law_pick) (defBody s__law_pick) (defScope s__law_pick) [] [] a__law_pick fd)  : FnOk P w K mg base (L2.CX P w) 1 a__law_pick fd ["_law_bag_here", "_law_many"] (spOf K mg 2 (defS 5 (m__law_pick))) := by
  refine fn_okD (N := ["_law_bag_here", "_law_many", "_law_cell", "_law_digit", "_law_seed"]) F sc__law_pick (k := 0) (body := m__law_pick) fun A outer s H E hr => ?_
  have tk : Takes (cxOf (L2.CX P w) P w K mg base ["_law_bag_here", "_law_many", "_law_cell", "_law_digit", "_law_seed"] "_law_pick" (defScope s__law_pick) a__law_pick fd.code A outer s H E) (fun c d _ H' => E c d H') := takes_of rfl rfl rfl rfl
  have hp : PassesOwn (model P w) (cxOf (L2.CX P w) P w K mg base ["_law_bag_here", "_law_many", "_law_cell", "_law_digit", "_law_seed"] "_law_pick" (defScope s__law_pick) a__law_pick fd.code A outer s H E).A (cxOf (L2.CX P w) P w K mg base ["_law_bag_here", "_law_many", "_law_cell", "_law_digit", "_law_seed"] "_law_pick" (defScope s__law_pick) a__law_pick fd.code A outer s H E).env (cxOf (L2.CX P w) P w K mg base ["_law_bag_here", "_law_many", "_law_cell", "_law_digit", "_law_seed"] "_law_pick" (defScope s__law_pick) a__law_pick fd.code A outer s H E).xe := passes_of rfl
  unfold m__law_pick
  exact (s_cons (s_if (EW.eb (w_and (b_cmp (d_eq hr.units) (r_ix (d_ixX hr.units) (r_name (i := 0)) r_int) r_int) (w_and1 (b_cmp d_ltX (r_ix (d_ixX hr.units) (r_name (i := 0)) r_int) (r_callB d_lenX rfl T.b_len PySem.boot_len (a_cons (r_ix (d_ixX hr.units) (r_name (i := 0)) r_int) a_nil))))))
  (s_cons (s_set (i := 2) sc__law_pick.nd (r_ix (d_ixX hr.units) (r_ix (d_ixX hr.units) (r_name (i := 0)) r_int) (r_ix (d_ixX hr.units) (r_name (i := 0)) r_int)))
  (s_cons (s_asg (r_bin d_addX (r_ix (d_ixX hr.units) (r_name (i := 0)) r_int) r_int) (g_sub (hu1 hr.units) (r_name (i := 0)) r_int) (nx_sub _ _))
  (s_one (s_if (b_cmp d_geI (r_name (i := 2)) (r_bin d_powI r_int r_int))
  (s_one (s_asg (r_name (i := 2)) (g_sub (hu1 hr.units) (r_name (i := 0)) r_int) (nx_sub _ _)))
  (s_one (s_asg (r_bin d_modI (r_callT d_int rfl T.b_int PyProof.Rows.boot_int (a_cons (r_bin d_addX (r_bin d_addX (r_bin d_mulX (r_ix (d_ixX hr.units) (r_name (i := 0)) r_int) r_int) (r_bin d_mulX (r_bin d_modI (r_callT d_int rfl T.b_int PyProof.Rows.boot_int (a_cons (r_name (i := 2)) a_nil)) r_int) r_int)) r_int) a_nil)) r_int) (g_sub (hu1 hr.units) (r_name (i := 0)) r_int) (nx_sub _ _)))))))
  s_nil)
  (s_cons (s_if (b_cmp d_gtI (r_ix (d_ixX hr.units) (r_name (i := 0)) r_int) r_int)
  (s_cons (s_set (i := 3) sc__law_pick.nd (r_bin d_modI (r_callT d_int rfl T.b_int PyProof.Rows.boot_int (a_cons (r_ix (d_ixX hr.units) (r_name (i := 0)) r_int) a_nil)) (r_name (i := 1))))
  (s_cons (s_asg (r_bin d_divI (r_ix (d_ixX hr.units) (r_name (i := 0)) r_int) (r_name (i := 1))) (g_sub (hu1 hr.units) (r_name (i := 0)) r_int) (nx_sub _ _))
  (s_one (s_ret (r_name (i := 3))))))
  s_nil)
  (s_cons (s_set (i := 4) sc__law_pick.nd (r_ix (d_ixX hr.units) (r_name (i := 0)) r_int))
  (s_cons (s_asg (r_bin d_modI (r_callT d_int rfl T.b_int PyProof.Rows.boot_int (a_cons (r_bin d_addX (r_bin d_addX (r_bin d_mulX (r_name (i := 4)) (r_name (i := 4))) (r_bin d_mulX (r_name (i := 4)) r_int)) r_int) a_nil)) r_int) (g_sub (hu1 hr.units) (r_name (i := 0)) r_int) (nx_sub _ _))
  (s_one (s_ret (r_bin d_modI (r_callT d_int rfl T.b_int PyProof.Rows.boot_int (a_cons (r_bin d_addX (r_bin d_divI (r_ix (d_ixX hr.units) (r_name (i := 0)) r_int) r_int) (r_bin d_mulX (r_bin d_modI (r_callT d_int rfl T.b_int PyProof.Rows.boot_int (a_cons (r_ix (d_ixX hr.units) (r_name (i := 0)) r_int) a_nil)) r_int) r_int)) a_nil)) (r_name (i := 1)))))))))
theorem d__law_pick {fd : FuncData} (F : FunD K "_law_pick" "_law_pick" (defArgs s__law_pick) (defBody s__law_pick) (defScope s__law_pick) [] [] a__law_pick fd) (O : FnOk P w K mg base (L2.CX P w) 1 a__law_pick fd ["_law_bag_here", "_law_many"] (spOf K mg 2 (defS 5 (m__law_pick)))) : FZ P w K mg base 1 a__law_pick f__law_pick := fz_of0 O (F.bindsN (ps := ["_law_bag_here", "_law_many"]) fun _ _ _ _ _ _ us hl => match us, hl with | [_, _], _ => rfl)
theorem o__law_of (T : Tx K mg a__law_all a__law_bag a__law_field a__law_flags a__law_pick a__law_of a__law_same a_law C_WayError C_Missing C_InvalidRatio C_InvalidWorld C_InvalidElement C_InvalidText C_InvalidProgram C_InvalidPlan C_EmptyLoop C_InvalidStep C_InvalidReader C_WorldsDiffer C_TooMany C_InvalidName C_WrongKind C_CircularName C_InUse C_Breaks C_CapacityExceeded C_InvalidLimit C_InvalidCommand C_InvalidPage C_UnknownName C_NothingLeft) {fd : FuncData} (F : FunD K "_law_of" "_law_of" (defArgs s__law_of) (defBody s__law_of) (defScope s__law_of) [] [] a__law_of fd) (Z__law_pick : FZ P w K mg base 1 a__law_pick f__law_pick) : FnOk P w K mg base (L2.CX P w) 2 a__law_of fd ["_law_bag_here", "_law_some"] (spOf K mg 2 (defS 2 (m__law_of))) := by
  refine fn_okD (N := ["_law_bag_here", "_law_some"]) F sc__law_of (k := 1) (body := m__law_of) fun A outer s H E hr => ?_
  have tk : Takes (cxOf (L2.CX P w) P w K mg base ["_law_bag_here", "_law_some"] "_law_of" (defScope s__law_of) a__law_of fd.code A outer s H E) (fun c d _ H' => E c d H') := takes_of rfl rfl rfl rfl
  have hp : PassesOwn (model P w) (cxOf (L2.CX P w) P w K mg base ["_law_bag_here", "_law_some"] "_law_of" (defScope s__law_of) a__law_of fd.code A outer s H E).A (cxOf (L2.CX P w) P w K mg base ["_law_bag_here", "_law_some"] "_law_of" (defScope s__law_of) a__law_of fd.code A outer s H E).env (cxOf (L2.CX P w) P w K mg base ["_law_bag_here", "_law_some"] "_law_of" (defScope s__law_of) a__law_of fd.code A outer s H E).xe := passes_of rfl
  unfold m__law_of
  exact (s_one (s_ret (r_ix (d_ixX hr.units) (r_name (i := 1)) (r_callZ tk Z__law_pick (hr.mono (by omega)) T.m__law_pick T.k__law_pick (a_cons (r_name (i := 0)) (a_cons (r_callB d_lenX rfl T.b_len PySem.boot_len (a_cons (r_name (i := 1)) a_nil)) a_nil))))))
theorem d__law_of {fd : FuncData} (F : FunD K "_law_of" "_law_of" (defArgs s__law_of) (defBody s__law_of) (defScope s__law_of) [] [] a__law_of fd) (O : FnOk P w K mg base (L2.CX P w) 2 a__law_of fd ["_law_bag_here", "_law_some"] (spOf K mg 2 (defS 2 (m__law_of)))) : FZ P w K mg base 2 a__law_of f__law_of := fz_of0 O (F.bindsN (ps := ["_law_bag_here", "_law_some"]) fun _ _ _ _ _ _ us hl => match us, hl with | [_, _], _ => rfl)
theorem d__law_same (T : Tx K mg a__law_all a__law_bag a__law_field a__law_flags a__law_pick a__law_of a__law_same a_law C_WayError C_Missing C_InvalidRatio C_InvalidWorld C_InvalidElement C_InvalidText C_InvalidProgram C_InvalidPlan C_EmptyLoop C_InvalidStep C_InvalidReader C_WorldsDiffer C_TooMany C_InvalidName C_WrongKind C_CircularName C_InUse C_Breaks C_CapacityExceeded C_InvalidLimit C_InvalidCommand C_InvalidPage C_UnknownName C_NothingLeft) {fd : FuncData} (F : FunD K "_law_same" "_law_same" (defArgs s__law_same) (defBody s__law_same) (defScope s__law_same) [] [] a__law_same fd)  : ∀ k, FZ P w K mg base (k + 1) a__law_same (f__law_sameR k)
  | 0 => fz_bad
  | k + 1 => by
    have ZR := d__law_same T F  k
    have hrec : k + 1 ≤ k + 1 := Nat.le_refl _
    refine fz_of0 (fn_okD (N := ["_law_found", "_law_due", "_law_a", "_law_b"]) F sc__law_same (k := k + 1) (body := m__law_same (f__law_sameR k)) fun A outer s H E hr => ?_) (F.bindsN (ps := ["_law_found", "_law_due"]) fun _ _ _ _ _ _ us hl => match us, hl with | [_, _], _ => rfl)
    have tk : Takes (cxOf (L2.CX P w) P w K mg base ["_law_found", "_law_due", "_law_a", "_law_b"] "_law_same" (defScope s__law_same) a__law_same fd.code A outer s H E) (fun c d _ H' => E c d H') := takes_of rfl rfl rfl rfl
    have hp : PassesOwn (model P w) (cxOf (L2.CX P w) P w K mg base ["_law_found", "_law_due", "_law_a", "_law_b"] "_law_same" (defScope s__law_same) a__law_same fd.code A outer s H E).A (cxOf (L2.CX P w) P w K mg base ["_law_found", "_law_due", "_law_a", "_law_b"] "_law_same" (defScope s__law_same) a__law_same fd.code A outer s H E).env (cxOf (L2.CX P w) P w K mg base ["_law_found", "_law_due", "_law_a", "_law_b"] "_law_same" (defScope s__law_same) a__law_same fd.code A outer s H E).xe := passes_of rfl
    unfold m__law_same
    exact (s_cons (s_if (b_val (r_callB d_isiX rfl T.b_isinstance PyProof.Rows.boot_isinstance (a_cons (r_name (i := 1)) (a_cons (r_tup (a_cons (r_ty rfl T.b_list PyProof.Rows.boot_list) (a_cons (r_ty rfl T.b_tuple PyProof.Rows.boot_tuple) a_nil))) a_nil))))
    (s_cons (s_if (EW.eb (w_or (b_cmp (d_ne hr.units) (r_callB d_isiX rfl T.b_isinstance PyProof.Rows.boot_isinstance (a_cons (r_name (i := 0)) (a_cons (r_ty rfl T.b_list PyProof.Rows.boot_list) a_nil))) (r_callB d_isiX rfl T.b_isinstance PyProof.Rows.boot_isinstance (a_cons (r_name (i := 1)) (a_cons (r_ty rfl T.b_list PyProof.Rows.boot_list) a_nil)))) (w_or1 (b_cmp (d_ne hr.units) (r_callB d_isiX rfl T.b_isinstance PyProof.Rows.boot_isinstance (a_cons (r_name (i := 0)) (a_cons (r_ty rfl T.b_tuple PyProof.Rows.boot_tuple) a_nil))) (r_callB d_isiX rfl T.b_isinstance PyProof.Rows.boot_isinstance (a_cons (r_name (i := 1)) (a_cons (r_ty rfl T.b_tuple PyProof.Rows.boot_tuple) a_nil)))))))
    (s_one (s_ret r_bl))
    s_nil)
    (s_one (s_ret (r_and (r_cmp (d_eq hr.units) (r_callB d_lenX rfl T.b_len PySem.boot_len (a_cons (r_name (i := 0)) a_nil)) (r_callB d_lenX rfl T.b_len PySem.boot_len (a_cons (r_name (i := 1)) a_nil))) (r_one (r_callB (d_all rfl) rfl T.b_all PyProof.Rows.boot_all (a_cons (r_fin (r_lc (own := [("_law_a", 2), ("_law_b", 3)]) rfl sc__law_same.nd (blkOk_by (by rfl)) (i_zip (a_cons (r_name (i := 0)) (a_cons (r_name (i := 1)) a_nil)) rfl T.b_zip) (fun _ _ _ _ _ => (gw_tup rfl (gsw_cons (gw_name sc__law_same.nd (i := 2)) (gsw_cons (gw_name sc__law_same.nd (i := 3)) gsw_nil)) (len_consN (nx_set 2) (len_consN (nx_set 3) len_nil)))) (fun _ _ _ _ _ => ts_nil) (fun _ _ _ _ _ => (r_callZ takesF ZR (hr.mono hrec) T.m__law_same T.k__law_same (a_cons (r_name (i := 2)) (a_cons (r_name (i := 3)) a_nil)))))) a_nil)))))))
    s_nil)
    (s_cons (s_if (EW.eb (w_or (b_cmp d_isN (r_name (i := 1)) r_non) (w_or1 (b_cmp d_isN (r_name (i := 0)) r_non))))
    (s_one (s_ret (r_and (r_cmp d_isN (r_name (i := 1)) r_non) (r_one (r_cmp d_isN (r_name (i := 0)) r_non)))))
    s_nil)
    (s_cons (s_if (EW.eb (w_or (b_cmp (d_ne hr.units) (r_callB d_isiX rfl T.b_isinstance PyProof.Rows.boot_isinstance (a_cons (r_name (i := 0)) (a_cons (r_ty rfl T.b_bool PyProof.Rows.boot_bool) a_nil))) (r_callB d_isiX rfl T.b_isinstance PyProof.Rows.boot_isinstance (a_cons (r_name (i := 1)) (a_cons (r_ty rfl T.b_bool PyProof.Rows.boot_bool) a_nil)))) (w_or1 (b_cmp (d_ne hr.units) (r_callB d_isiX rfl T.b_isinstance PyProof.Rows.boot_isinstance (a_cons (r_name (i := 0)) (a_cons (r_ty rfl T.b_int PyProof.Rows.boot_int) a_nil))) (r_callB d_isiX rfl T.b_isinstance PyProof.Rows.boot_isinstance (a_cons (r_name (i := 1)) (a_cons (r_ty rfl T.b_int PyProof.Rows.boot_int) a_nil)))))))
    (s_one (s_ret r_bl))
    s_nil)
    (s_one (s_ret (r_and (r_cmp (d_eq hr.units) (r_callB d_isiX rfl T.b_isinstance PyProof.Rows.boot_isinstance (a_cons (r_name (i := 0)) (a_cons (r_ty rfl T.b_str PyProof.Rows.boot_str) a_nil))) (r_callB d_isiX rfl T.b_isinstance PyProof.Rows.boot_isinstance (a_cons (r_name (i := 1)) (a_cons (r_ty rfl T.b_str PyProof.Rows.boot_str) a_nil)))) (r_one (r_cmp (d_eq hr.units) (r_name (i := 0)) (r_name (i := 1))))))))))
theorem o_law (T : Tx K mg a__law_all a__law_bag a__law_field a__law_flags a__law_pick a__law_of a__law_same a_law C_WayError C_Missing C_InvalidRatio C_InvalidWorld C_InvalidElement C_InvalidText C_InvalidProgram C_InvalidPlan C_EmptyLoop C_InvalidStep C_InvalidReader C_WorldsDiffer C_TooMany C_InvalidName C_WrongKind C_CircularName C_InUse C_Breaks C_CapacityExceeded C_InvalidLimit C_InvalidCommand C_InvalidPage C_UnknownName C_NothingLeft) {fd : FuncData} (F : FunD K "law" "law" (defArgs s_law) (defBody s_law) (defScope s_law) [] [] a_law fd) (Z__law_all : FZ P w K mg base 4 a__law_all f__law_all) (Z__law_bag : FZ P w K mg base 1 a__law_bag f__law_bag) (Z__law_field : FZ P w K mg base 1 a__law_field f__law_field) (Z__law_flags : FZ P w K mg base 1 a__law_flags f__law_flags) (Z__law_of : FZ P w K mg base 2 a__law_of f__law_of) (Z__law_same : FZ P w K mg base 13 a__law_same f__law_same) (X_Breaks : XMk P w K mg base "Breaks" C_Breaks 2 "Breaks" ["user", "word"]) (XK_Breaks_0 : XMkK P w K mg base "Breaks" C_Breaks 2 "Breaks" ["user", "word"] ["word", "user"] [1, 0] [1, 0]) : FnOk P w K mg base (L2.CX P w) 14 a_law fd ["_law_script"] (spOf K mg 1 (defS 11 (m_law))) := by
  refine fn_okD (N := ["_law_script", "_law_bag_here", "_law_some", "_law_k", "_law_tags", "_law_due", "_law_at", "_law_e", "_law_lone", "_law_tag_z", "_law_under"]) F sc_law (k := 13) (body := m_law) fun A outer s H E hr => ?_
  have tk : Takes (cxOf (L2.CX P w) P w K mg base ["_law_script", "_law_bag_here", "_law_some", "_law_k", "_law_tags", "_law_due", "_law_at", "_law_e", "_law_lone", "_law_tag_z", "_law_under"] "law" (defScope s_law) a_law fd.code A outer s H E) (fun c d _ H' => E c d H') := takes_of rfl rfl rfl rfl
  have hp : PassesOwn (model P w) (cxOf (L2.CX P w) P w K mg base ["_law_script", "_law_bag_here", "_law_some", "_law_k", "_law_tags", "_law_due", "_law_at", "_law_e", "_law_lone", "_law_tag_z", "_law_under"] "law" (defScope s_law) a_law fd.code A outer s H E).A (cxOf (L2.CX P w) P w K mg base ["_law_script", "_law_bag_here", "_law_some", "_law_k", "_law_tags", "_law_due", "_law_at", "_law_e", "_law_lone", "_law_tag_z", "_law_under"] "law" (defScope s_law) a_law fd.code A outer s H E).env (cxOf (L2.CX P w) P w K mg base ["_law_script", "_law_bag_here", "_law_some", "_law_k", "_law_tags", "_law_due", "_law_at", "_law_e", "_law_lone", "_law_tag_z", "_law_under"] "law" (defScope s_law) a_law fd.code A outer s H E).xe := passes_of rfl
  unfold m_law
  exact (s_cons (s_set (i := 1) sc_law.nd (r_callZ tk Z__law_bag (hr.mono (by omega)) T.m__law_bag T.k__law_bag (a_cons (r_name (i := 0)) a_nil)))
  (s_cons (s_setLcF (i := 2) (own := [("_law_k", 3)]) rfl sc_law.nd (blkOk_by (by rfl)) (sw_true rfl rfl rfl rfl) (i_range1 (a_cons r_int a_nil) rfl T.b_range) (fun _ _ _ _ _ => (gw_name sc_law.nd (i := 3))) (fun _ _ _ _ _ => ts_nil) (fun _ _ _ _ _ => (r_callZ takesF Z__law_of (hr.mono (by omega)) T.m__law_of T.k__law_of (a_cons (r_name (i := 1)) (a_cons (r_lst (a_cons r_str (a_cons r_str (a_cons r_int (a_cons (r_tup (a_cons r_int (a_cons r_int a_nil))) (a_cons r_non (a_cons (r_tup (a_cons r_str a_nil)) (a_cons (r_bin d_powI r_int r_int) a_nil)))))))) a_nil)))))
  (s_cons (s_set (i := 4) sc_law.nd (r_lst (a_cons r_str (a_cons r_str (a_cons r_str (a_cons r_str (a_cons r_str a_nil)))))))
  (s_cons (s_set (i := 4) sc_law.nd (r_bin d_addX (r_name (i := 4)) (r_lst (a_cons r_str (a_cons r_str (a_cons r_str (a_cons r_str (a_cons r_str a_nil))))))))
  (s_cons (s_set (i := 4) sc_law.nd (r_bin d_addX (r_name (i := 4)) (r_lst (a_cons r_str (a_cons r_str (a_cons r_str a_nil))))))
  (s_cons (s_set (i := 4) sc_law.nd (r_bin d_addX (r_name (i := 4)) (r_lst (a_cons r_str (a_cons r_str (a_cons r_str (a_cons r_str (a_cons r_str (a_cons r_str a_nil)))))))))
  (s_cons (s_set (i := 4) sc_law.nd (r_bin d_addX (r_name (i := 4)) (r_lst (a_cons r_str (a_cons r_str (a_cons r_str a_nil))))))
  (s_cons (s_set (i := 5) sc_law.nd (r_lst (a_cons (r_ix (d_ixX hr.units) (r_name (i := 2)) r_int) (a_cons (r_ix (d_ixX hr.units) (r_name (i := 2)) r_int) (a_cons (r_ix (d_ixX hr.units) (r_name (i := 2)) r_int) (a_cons (r_ix (d_ixX hr.units) (r_name (i := 2)) r_int) (a_cons (r_ix (d_ixX hr.units) (r_name (i := 2)) r_int) (a_cons (r_ix (d_ixX hr.units) (r_name (i := 2)) r_int) (a_cons (r_ix (d_ixX hr.units) (r_name (i := 2)) r_int) (a_cons (r_ix (d_ixX hr.units) (r_name (i := 2)) r_int) (a_cons (r_ix (d_ixX hr.units) (r_name (i := 2)) r_int) (a_cons r_non (a_cons (r_ix (d_ixX hr.units) (r_name (i := 2)) r_int) (a_cons (r_ix (d_ixX hr.units) (r_name (i := 2)) r_int) a_nil))))))))))))))
  (s_cons (s_set (i := 5) sc_law.nd (r_bin d_addX (r_name (i := 5)) (r_lst (a_cons (r_ix (d_ixX hr.units) (r_name (i := 2)) r_int) (a_cons (r_ix (d_ixX hr.units) (r_name (i := 2)) r_int) (a_cons (r_ix (d_ixX hr.units) (r_name (i := 2)) r_int) (a_cons (r_tup (a_cons (r_ix (d_ixX hr.units) (r_name (i := 2)) r_int) (a_cons (r_ix (d_ixX hr.units) (r_name (i := 2)) r_int) a_nil))) (a_cons (r_ix (d_ixX hr.units) (r_name (i := 2)) r_int) (a_cons (r_ix (d_ixX hr.units) (r_name (i := 2)) r_int) (a_cons (r_ix (d_ixX hr.units) (r_name (i := 2)) r_int) (a_cons (r_ix (d_ixX hr.units) (r_name (i := 2)) r_int) (a_cons (r_ix (d_ixX hr.units) (r_name (i := 2)) r_int) (a_cons r_non a_nil)))))))))))))
  (s_cons (s_for hp rfl (i_enum (a_cons (r_callZ tk Z__law_all (hr.mono (by omega)) T.m__law_all T.k__law_all (a_cons (r_name (i := 2)) a_nil)) a_nil) rfl T.b_enumerate) (g_tup rfl (gs_cons (g_name sc_law.nd (i := 6)) (gs_cons (g_name sc_law.nd (i := 7)) gs_nil)) (len_consN (nx_set 6) (len_consN (nx_set 7) len_nil)))
  (s_cons (s_setLcF (i := 8) (own := [("_law_tag_z", 9)]) rfl sc_law.nd (blkOk_by (by rfl)) (sw_true rfl rfl rfl rfl) (i_any (r_name (i := 4))) (fun _ _ _ _ _ => (gw_name sc_law.nd (i := 9))) (fun _ _ _ _ _ => ts_nil) (fun _ _ _ _ _ => (r_cmp (d_eq hr.units) (r_name (i := 9)) (r_ix (d_ixX hr.units) (r_name (i := 4)) (r_name (i := 6))))))
  (s_cons (s_set (i := 10) sc_law.nd (r_lst (a_cons (r_cmp d_ltX (r_name (i := 6)) r_int) (a_cons (r_cmp d_ltX (r_name (i := 6)) r_int) (a_cons (r_cmp (d_eq hr.units) (r_name (i := 6)) r_int) (a_cons (r_cmp d_geI (r_name (i := 6)) r_int) (a_cons (r_cmp (d_eq hr.units) (r_name (i := 6)) r_int) a_nil)))))))
  (s_one (s_if (EW.eb (w_or (b_not (b_val (r_callZ tk Z__law_same (hr.mono (by omega)) T.m__law_same T.k__law_same (a_cons (r_lst (a_cons (r_xat (xat_cons T.m_InvalidRatio T.xf_InvalidRatio T.xn_InvalidRatio_tag (xat_cons T.m_InvalidWorld T.xf_InvalidWorld T.xn_InvalidWorld_tag (xat_cons T.m_InvalidElement T.xf_InvalidElement T.xn_InvalidElement_tag (xat_cons T.m_InvalidText T.xf_InvalidText T.xn_InvalidText_tag (xat_cons T.m_InvalidProgram T.xf_InvalidProgram T.xn_InvalidProgram_tag (xat_cons T.m_InvalidPlan T.xf_InvalidPlan T.xn_InvalidPlan_tag (xat_cons T.m_EmptyLoop T.xf_EmptyLoop T.xn_EmptyLoop_tag (xat_cons T.m_InvalidStep T.xf_InvalidStep T.xn_InvalidStep_tag (xat_cons T.m_InvalidReader T.xf_InvalidReader T.xn_InvalidReader_tag (xat_cons T.m_WorldsDiffer T.xf_WorldsDiffer T.xn_WorldsDiffer_tag (xat_cons T.m_TooMany T.xf_TooMany T.xn_TooMany_tag (xat_cons T.m_InvalidName T.xf_InvalidName T.xn_InvalidName_tag (xat_cons T.m_WrongKind T.xf_WrongKind T.xn_WrongKind_tag (xat_cons T.m_CircularName T.xf_CircularName T.xn_CircularName_tag (xat_cons T.m_InUse T.xf_InUse T.xn_InUse_tag (xat_cons T.m_Breaks T.xf_Breaks T.xn_Breaks_tag (xat_cons T.m_CapacityExceeded T.xf_CapacityExceeded T.xn_CapacityExceeded_tag (xat_cons T.m_InvalidLimit T.xf_InvalidLimit T.xn_InvalidLimit_tag (xat_cons T.m_InvalidCommand T.xf_InvalidCommand T.xn_InvalidCommand_tag (xat_cons T.m_InvalidPage T.xf_InvalidPage T.xn_InvalidPage_tag (xat_cons T.m_UnknownName T.xf_UnknownName T.xn_UnknownName_tag (xat_cons T.m_NothingLeft T.xf_NothingLeft T.xn_NothingLeft_tag xat_nil)))))))))))))))))))))) (r_name (i := 7))) (a_cons (r_callZ tk Z__law_field (hr.mono (by omega)) T.m__law_field T.k__law_field (a_cons (r_name (i := 7)) a_nil)) a_nil))) (a_cons (r_lst (a_cons (r_ix (d_ixX hr.units) (r_name (i := 4)) (r_name (i := 6))) (a_cons (r_ix (d_ixX hr.units) (r_name (i := 5)) (r_name (i := 6))) a_nil))) a_nil))))) (w_or1 (b_cmp (d_ne hr.units) (r_callZ tk Z__law_flags (hr.mono (by omega)) T.m__law_flags T.k__law_flags (a_cons (r_name (i := 7)) a_nil)) (r_bin d_addX (r_name (i := 8)) (r_name (i := 10)))))))
  (s_one (s_ret r_bl))
  s_nil)))))
  (s_one (s_ret (r_callZ tk Z__law_same (hr.mono (by omega)) T.m__law_same T.k__law_same (a_cons (r_lst (a_cons (r_xat (xat_cons T.m_Breaks T.xf_Breaks T.xn_Breaks_user xat_nil) (r_excK0 XK_Breaks_0 (hr.mono (by omega)) (by decide) (k_cons r_str (k_cons r_str k_nil)))) (a_cons (r_xat (xat_cons T.m_Breaks T.xf_Breaks T.xn_Breaks_word xat_nil) (r_excK0 XK_Breaks_0 (hr.mono (by omega)) (by decide) (k_cons r_str (k_cons r_str k_nil)))) a_nil))) (a_cons (r_lst (a_cons r_str (a_cons r_str a_nil))) a_nil)))))))))))))))
end
abbrev s_InvalidRatio___init__ : Stmt := inClass (top 3) 0
theorem ss_InvalidRatio : ZX.SupS (defScope s_InvalidRatio___init__) "self" := ⟨rfl, rfl, rfl, rfl, rfl, rfl, by decide +kernel⟩
theorem po_InvalidRatio : ZX.ParOk (defArgs s_InvalidRatio___init__) (defScope s_InvalidRatio___init__) "self" ["value"] := ⟨rfl, by decide +kernel, by decide +kernel, by decide +kernel, fun fd us h hd hl => by
  obtain ⟨⟩ := fd
  cases h
  cases hd
  exact match us, hl with | [_, _], _ => rfl⟩
abbrev s_WayError___init__ : Stmt := inClass (top 1) 0
theorem ss_WayError : ZX.SupS (defScope s_WayError___init__) "self" := ⟨rfl, rfl, rfl, rfl, rfl, rfl, by decide +kernel⟩
theorem po_WayError : ZX.ParOk (defArgs s_WayError___init__) (defScope s_WayError___init__) "self" ["tag"] := ⟨rfl, by decide +kernel, by decide +kernel, by decide +kernel, fun fd us h hd hl => by
  obtain ⟨⟩ := fd
  cases h
  cases hd
  exact match us, hl with | [_, _], _ => rfl⟩
abbrev s_InvalidWorld___init__ : Stmt := inClass (top 4) 0
theorem ss_InvalidWorld : ZX.SupS (defScope s_InvalidWorld___init__) "self" := ⟨rfl, rfl, rfl, rfl, rfl, rfl, by decide +kernel⟩
theorem po_InvalidWorld : ZX.ParOk (defArgs s_InvalidWorld___init__) (defScope s_InvalidWorld___init__) "self" ["value"] := ⟨rfl, by decide +kernel, by decide +kernel, by decide +kernel, fun fd us h hd hl => by
  obtain ⟨⟩ := fd
  cases h
  cases hd
  exact match us, hl with | [_, _], _ => rfl⟩
abbrev s_InvalidElement___init__ : Stmt := inClass (top 5) 0
theorem ss_InvalidElement : ZX.SupS (defScope s_InvalidElement___init__) "self" := ⟨rfl, rfl, rfl, rfl, rfl, rfl, by decide +kernel⟩
theorem po_InvalidElement : ZX.ParOk (defArgs s_InvalidElement___init__) (defScope s_InvalidElement___init__) "self" ["value"] := ⟨rfl, by decide +kernel, by decide +kernel, by decide +kernel, fun fd us h hd hl => by
  obtain ⟨⟩ := fd
  cases h
  cases hd
  exact match us, hl with | [_, _], _ => rfl⟩
abbrev s_InvalidText___init__ : Stmt := inClass (top 6) 0
theorem ss_InvalidText : ZX.SupS (defScope s_InvalidText___init__) "self" := ⟨rfl, rfl, rfl, rfl, rfl, rfl, by decide +kernel⟩
theorem po_InvalidText : ZX.ParOk (defArgs s_InvalidText___init__) (defScope s_InvalidText___init__) "self" ["given"] := ⟨rfl, by decide +kernel, by decide +kernel, by decide +kernel, fun fd us h hd hl => by
  obtain ⟨⟩ := fd
  cases h
  cases hd
  exact match us, hl with | [_, _], _ => rfl⟩
abbrev s_InvalidProgram___init__ : Stmt := inClass (top 7) 0
theorem ss_InvalidProgram : ZX.SupS (defScope s_InvalidProgram___init__) "self" := ⟨rfl, rfl, rfl, rfl, rfl, rfl, by decide +kernel⟩
theorem po_InvalidProgram : ZX.ParOk (defArgs s_InvalidProgram___init__) (defScope s_InvalidProgram___init__) "self" ["part"] := ⟨rfl, by decide +kernel, by decide +kernel, by decide +kernel, fun fd us h hd hl => by
  obtain ⟨⟩ := fd
  cases h
  cases hd
  exact match us, hl with | [_, _], _ => rfl⟩
abbrev s_InvalidPlan___init__ : Stmt := inClass (top 8) 0
theorem ss_InvalidPlan : ZX.SupS (defScope s_InvalidPlan___init__) "self" := ⟨rfl, rfl, rfl, rfl, rfl, rfl, by decide +kernel⟩
theorem po_InvalidPlan : ZX.ParOk (defArgs s_InvalidPlan___init__) (defScope s_InvalidPlan___init__) "self" ["path"] := ⟨rfl, by decide +kernel, by decide +kernel, by decide +kernel, fun fd us h hd hl => by
  obtain ⟨⟩ := fd
  cases h
  cases hd
  exact match us, hl with | [_, _], _ => rfl⟩
abbrev s_EmptyLoop___init__ : Stmt := inClass (top 9) 0
theorem ss_EmptyLoop : ZX.SupS (defScope s_EmptyLoop___init__) "self" := ⟨rfl, rfl, rfl, rfl, rfl, rfl, by decide +kernel⟩
theorem po_EmptyLoop : ZX.ParOk (defArgs s_EmptyLoop___init__) (defScope s_EmptyLoop___init__) "self" ["path"] := ⟨rfl, by decide +kernel, by decide +kernel, by decide +kernel, fun fd us h hd hl => by
  obtain ⟨⟩ := fd
  cases h
  cases hd
  exact match us, hl with | [_, _], _ => rfl⟩
abbrev s_InvalidStep___init__ : Stmt := inClass (top 10) 0
theorem ss_InvalidStep : ZX.SupS (defScope s_InvalidStep___init__) "self" := ⟨rfl, rfl, rfl, rfl, rfl, rfl, by decide +kernel⟩
theorem po_InvalidStep : ZX.ParOk (defArgs s_InvalidStep___init__) (defScope s_InvalidStep___init__) "self" ["value"] := ⟨rfl, by decide +kernel, by decide +kernel, by decide +kernel, fun fd us h hd hl => by
  obtain ⟨⟩ := fd
  cases h
  cases hd
  exact match us, hl with | [_, _], _ => rfl⟩
abbrev s_InvalidReader___init__ : Stmt := inClass (top 11) 0
theorem ss_InvalidReader : ZX.SupS (defScope s_InvalidReader___init__) "self" := ⟨rfl, rfl, rfl, rfl, rfl, rfl, by decide +kernel⟩
theorem po_InvalidReader : ZX.ParOk (defArgs s_InvalidReader___init__) (defScope s_InvalidReader___init__) "self" ["place"] := ⟨rfl, by decide +kernel, by decide +kernel, by decide +kernel, fun fd us h hd hl => by
  obtain ⟨⟩ := fd
  cases h
  cases hd
  exact match us, hl with | [_, _], _ => rfl⟩
abbrev s_WorldsDiffer___init__ : Stmt := inClass (top 12) 0
theorem ss_WorldsDiffer : ZX.SupS (defScope s_WorldsDiffer___init__) "self" := ⟨rfl, rfl, rfl, rfl, rfl, rfl, by decide +kernel⟩
theorem po_WorldsDiffer : ZX.ParOk (defArgs s_WorldsDiffer___init__) (defScope s_WorldsDiffer___init__) "self" [] := ⟨rfl, by decide +kernel, by decide +kernel, by decide +kernel, fun fd us h hd hl => by
  obtain ⟨⟩ := fd
  cases h
  cases hd
  exact match us, hl with | [_], _ => rfl⟩
abbrev s_TooMany___init__ : Stmt := inClass (top 13) 0
theorem ss_TooMany : ZX.SupS (defScope s_TooMany___init__) "self" := ⟨rfl, rfl, rfl, rfl, rfl, rfl, by decide +kernel⟩
theorem po_TooMany : ZX.ParOk (defArgs s_TooMany___init__) (defScope s_TooMany___init__) "self" ["limit"] := ⟨rfl, by decide +kernel, by decide +kernel, by decide +kernel, fun fd us h hd hl => by
  obtain ⟨⟩ := fd
  cases h
  cases hd
  exact match us, hl with | [_, _], _ => rfl⟩
abbrev s_InvalidName___init__ : Stmt := inClass (top 14) 0
theorem ss_InvalidName : ZX.SupS (defScope s_InvalidName___init__) "self" := ⟨rfl, rfl, rfl, rfl, rfl, rfl, by decide +kernel⟩
theorem po_InvalidName : ZX.ParOk (defArgs s_InvalidName___init__) (defScope s_InvalidName___init__) "self" ["name"] := ⟨rfl, by decide +kernel, by decide +kernel, by decide +kernel, fun fd us h hd hl => by
  obtain ⟨⟩ := fd
  cases h
  cases hd
  exact match us, hl with | [_, _], _ => rfl⟩
abbrev s_WrongKind___init__ : Stmt := inClass (top 15) 0
theorem ss_WrongKind : ZX.SupS (defScope s_WrongKind___init__) "self" := ⟨rfl, rfl, rfl, rfl, rfl, rfl, by decide +kernel⟩
theorem po_WrongKind : ZX.ParOk (defArgs s_WrongKind___init__) (defScope s_WrongKind___init__) "self" ["name"] := ⟨rfl, by decide +kernel, by decide +kernel, by decide +kernel, fun fd us h hd hl => by
  obtain ⟨⟩ := fd
  cases h
  cases hd
  exact match us, hl with | [_, _], _ => rfl⟩
abbrev s_CircularName___init__ : Stmt := inClass (top 16) 0
theorem ss_CircularName : ZX.SupS (defScope s_CircularName___init__) "self" := ⟨rfl, rfl, rfl, rfl, rfl, rfl, by decide +kernel⟩
theorem po_CircularName : ZX.ParOk (defArgs s_CircularName___init__) (defScope s_CircularName___init__) "self" ["name"] := ⟨rfl, by decide +kernel, by decide +kernel, by decide +kernel, fun fd us h hd hl => by
  obtain ⟨⟩ := fd
  cases h
  cases hd
  exact match us, hl with | [_, _], _ => rfl⟩
abbrev s_InUse___init__ : Stmt := inClass (top 17) 0
theorem ss_InUse : ZX.SupS (defScope s_InUse___init__) "self" := ⟨rfl, rfl, rfl, rfl, rfl, rfl, by decide +kernel⟩
theorem po_InUse : ZX.ParOk (defArgs s_InUse___init__) (defScope s_InUse___init__) "self" ["user"] := ⟨rfl, by decide +kernel, by decide +kernel, by decide +kernel, fun fd us h hd hl => by
  obtain ⟨⟩ := fd
  cases h
  cases hd
  exact match us, hl with | [_, _], _ => rfl⟩
abbrev s_Breaks___init__ : Stmt := inClass (top 18) 0
theorem ss_Breaks : ZX.SupS (defScope s_Breaks___init__) "self" := ⟨rfl, rfl, rfl, rfl, rfl, rfl, by decide +kernel⟩
theorem po_Breaks : ZX.ParOk (defArgs s_Breaks___init__) (defScope s_Breaks___init__) "self" ["user", "word"] := ⟨rfl, by decide +kernel, by decide +kernel, by decide +kernel, fun fd us h hd hl => by
  obtain ⟨⟩ := fd
  cases h
  cases hd
  exact match us, hl with | [_, _, _], _ => rfl⟩
abbrev s_CapacityExceeded___init__ : Stmt := inClass (top 19) 0
theorem ss_CapacityExceeded : ZX.SupS (defScope s_CapacityExceeded___init__) "self" := ⟨rfl, rfl, rfl, rfl, rfl, rfl, by decide +kernel⟩
theorem po_CapacityExceeded : ZX.ParOk (defArgs s_CapacityExceeded___init__) (defScope s_CapacityExceeded___init__) "self" ["limit"] := ⟨rfl, by decide +kernel, by decide +kernel, by decide +kernel, fun fd us h hd hl => by
  obtain ⟨⟩ := fd
  cases h
  cases hd
  exact match us, hl with | [_, _], _ => rfl⟩
abbrev s_InvalidLimit___init__ : Stmt := inClass (top 20) 0
theorem ss_InvalidLimit : ZX.SupS (defScope s_InvalidLimit___init__) "self" := ⟨rfl, rfl, rfl, rfl, rfl, rfl, by decide +kernel⟩
theorem po_InvalidLimit : ZX.ParOk (defArgs s_InvalidLimit___init__) (defScope s_InvalidLimit___init__) "self" ["value"] := ⟨rfl, by decide +kernel, by decide +kernel, by decide +kernel, fun fd us h hd hl => by
  obtain ⟨⟩ := fd
  cases h
  cases hd
  exact match us, hl with | [_, _], _ => rfl⟩
abbrev s_InvalidCommand___init__ : Stmt := inClass (top 21) 0
theorem ss_InvalidCommand : ZX.SupS (defScope s_InvalidCommand___init__) "self" := ⟨rfl, rfl, rfl, rfl, rfl, rfl, by decide +kernel⟩
theorem po_InvalidCommand : ZX.ParOk (defArgs s_InvalidCommand___init__) (defScope s_InvalidCommand___init__) "self" ["word"] := ⟨rfl, by decide +kernel, by decide +kernel, by decide +kernel, fun fd us h hd hl => by
  obtain ⟨⟩ := fd
  cases h
  cases hd
  exact match us, hl with | [_, _], _ => rfl⟩
abbrev s_InvalidPage___init__ : Stmt := inClass (top 22) 0
theorem ss_InvalidPage : ZX.SupS (defScope s_InvalidPage___init__) "self" := ⟨rfl, rfl, rfl, rfl, rfl, rfl, by decide +kernel⟩
theorem po_InvalidPage : ZX.ParOk (defArgs s_InvalidPage___init__) (defScope s_InvalidPage___init__) "self" ["line"] := ⟨rfl, by decide +kernel, by decide +kernel, by decide +kernel, fun fd us h hd hl => by
  obtain ⟨⟩ := fd
  cases h
  cases hd
  exact match us, hl with | [_, _], _ => rfl⟩
abbrev s_UnknownName___init__ : Stmt := inClass (top 23) 0
theorem ss_UnknownName : ZX.SupS (defScope s_UnknownName___init__) "self" := ⟨rfl, rfl, rfl, rfl, rfl, rfl, by decide +kernel⟩
theorem po_UnknownName : ZX.ParOk (defArgs s_UnknownName___init__) (defScope s_UnknownName___init__) "self" ["name"] := ⟨rfl, by decide +kernel, by decide +kernel, by decide +kernel, fun fd us h hd hl => by
  obtain ⟨⟩ := fd
  cases h
  cases hd
  exact match us, hl with | [_, _], _ => rfl⟩
abbrev s_Missing___init__ : Stmt := inClass (top 2) 0
theorem ss_Missing : ZX.SupS (defScope s_Missing___init__) "self" := ⟨rfl, rfl, rfl, rfl, rfl, rfl, by decide +kernel⟩
theorem po_Missing : ZX.ParOk (defArgs s_Missing___init__) (defScope s_Missing___init__) "self" ["tag"] := ⟨rfl, by decide +kernel, by decide +kernel, by decide +kernel, fun fd us h hd hl => by
  obtain ⟨⟩ := fd
  cases h
  cases hd
  exact match us, hl with | [_, _], _ => rfl⟩
abbrev s_NothingLeft___init__ : Stmt := inClass (top 24) 0
theorem ss_NothingLeft : ZX.SupS (defScope s_NothingLeft___init__) "self" := ⟨rfl, rfl, rfl, rfl, rfl, rfl, by decide +kernel⟩
theorem po_NothingLeft : ZX.ParOk (defArgs s_NothingLeft___init__) (defScope s_NothingLeft___init__) "self" [] := ⟨rfl, by decide +kernel, by decide +kernel, by decide +kernel, fun fd us h hd hl => by
  obtain ⟨⟩ := fd
  cases h
  cases hd
  exact match us, hl with | [_], _ => rfl⟩
theorem xm_X_InvalidRatio {l : PySem.W.OpenLaw} {w : World} {K : PySem.W.Frag} {h : Heap} {mg : Str → Option Value} {base : Heap}
    {ai_InvalidRatio : Addr} {ai_WayError : Addr} {C_WayError : Addr} {C_InvalidRatio : Addr}
    (X : K.In h) (G : h.Ns mainGlobals mg)
    (h_InvalidRatio : PySem.W.nsIn K mainGlobals "InvalidRatio" = some (some (.ref C_InvalidRatio)))
    (FN_InvalidRatio : ZX.SupFn l.prog K ai_InvalidRatio C_InvalidRatio "InvalidRatio.__init__" (defArgs s_InvalidRatio___init__) (defBody s_InvalidRatio___init__) (defScope s_InvalidRatio___init__))
    (FN_WayError : ZX.SupFn l.prog K ai_WayError C_WayError "WayError.__init__" (defArgs s_WayError___init__) (defBody s_WayError___init__) (defScope s_WayError___init__))
    (xb_InvalidRatio : xh2B K C_InvalidRatio C_WayError ai_InvalidRatio ai_WayError [.type "ValueError", .type "Exception", .type "BaseException", .type "object"] "ValueError" "ValueError.__new__" "ValueError.__init__" (.ref ai_WayError) ["tag", "value"] = true)
    (b_super : PySem.W.nsIn K mainGlobals "super" = some none)
    (tp_any : PySem.W.nsIn K cStatics "thirdparty.any" = some none)
    (top_super : (l.prog.main.scope.names.lookup ("super" : Str)).isSome = false)
    : XMk l.prog w K mg base "InvalidRatio" C_InvalidRatio 2 "InvalidRatio" ["value"] := by
  have SMk : L2.Mod K mg base → ZX.SupM l.prog K mg base := fun M => ⟨M, PySem.W.mg_none_of X G b_super, top_super, tp_any⟩
  obtain ⟨kc_InvalidRatio, xi_InvalidRatio, xo_InvalidRatio, xk_InvalidRatio, xs_InvalidRatio, xD_InvalidRatio, xI_InvalidRatio, xt_InvalidRatio, xB_InvalidRatio, xR_InvalidRatio, xT_InvalidRatio, xm_InvalidRatio_InvalidRatio, xu_InvalidRatio_InvalidRatio, xm_InvalidRatio_WayError, xu_InvalidRatio_WayError, xg_WayError, xh_WayError, _, _⟩ := xh2_ok xb_InvalidRatio
  have xa_InvalidRatio_tag : PySem.W.findIn K (.ref C_InvalidRatio) "tag" = some none := (xh2_ok xb_InvalidRatio).at_ (by decide +kernel)
  have xa_InvalidRatio_value : PySem.W.findIn K (.ref C_InvalidRatio) "value" = some none := (xh2_ok xb_InvalidRatio).at_ (by decide +kernel)
  have TX_InvalidRatio : ZX.ExC K C_InvalidRatio [.type "ValueError", .type "Exception", .type "BaseException", .type "object"] "ValueError.__new__" := ⟨xi_InvalidRatio, xo_InvalidRatio, xk_InvalidRatio, xs_InvalidRatio⟩
  refine ⟨PySem.W.mg_of X G h_InvalidRatio, kc_InvalidRatio, fun M => ⟨"ValueError", "ValueError.__new__", "ValueError.__init__", _, ai_InvalidRatio, PySem.F.excBase_ValueError, xi_InvalidRatio, xI_InvalidRatio, xt_InvalidRatio, ?_⟩, xB_InvalidRatio, xT_InvalidRatio⟩
  have F2 : ZX.InitOk l.prog w base 1 ai_WayError C_InvalidRatio ZX.G1 := ZX.initBase PySem.W.kxs_ValueError PySem.F.excBase_ValueError PySem.F.store_ValueError (SMk M) FN_WayError ss_WayError TX_InvalidRatio xD_InvalidRatio po_WayError xm_InvalidRatio_WayError xu_InvalidRatio_WayError xR_InvalidRatio xa_InvalidRatio_tag rfl (fun env => ⟨rfl, rfl, ⟨_, rfl⟩⟩) (fun env => rfl) (r0 := (fun v => v "tag")) (r1 := (fun v => v "tag")) (fun env vof h => ZX.Rd1.par (by show env.scope.names.lookup _ = _; rw [h]; rfl) rfl) (fun env vof h => ZX.Rd1.par (by show env.scope.names.lookup _ = _; rw [h]; rfl) rfl) (fun v1 v2 h => h "tag" (by simp))
  have F1 := ZX.initOwn (l := (["value"] : List Str).map fun p => (p, p)) F2 PySem.F.store_ValueError (SMk M) FN_InvalidRatio ss_InvalidRatio TX_InvalidRatio xD_InvalidRatio po_InvalidRatio xm_InvalidRatio_InvalidRatio xu_InvalidRatio_InvalidRatio xg_WayError xh_WayError rfl (fun env => ⟨rfl, rfl, ⟨_, rfl⟩⟩) (r0 := fun _ => V.str "InvalidRatio") (fun env vof h => ZX.Rd1.txt) (fun v1 v2 h => rfl) (fun env h => .cons rfl (by show env.scope.names.lookup _ = _; rw [h]; rfl) rfl (.nil)) (fun fp hm => by
    simp only [List.map_cons, List.map_nil, List.mem_cons, List.not_mem_nil, or_false] at hm
    subst hm; exact ⟨xa_InvalidRatio_value, by simp⟩) (by simp) (fun vs fs h => by unfold ZX.G1 at h; split at h <;> cases h; simp)
  exact F1.cast (fun vs => ZX.own_eq (by decide) vs)
theorem xm_X_InvalidWorld {l : PySem.W.OpenLaw} {w : World} {K : PySem.W.Frag} {h : Heap} {mg : Str → Option Value} {base : Heap}
    {ai_WayError : Addr} {ai_InvalidWorld : Addr} {C_WayError : Addr} {C_InvalidWorld : Addr}
    (X : K.In h) (G : h.Ns mainGlobals mg)
    (h_InvalidWorld : PySem.W.nsIn K mainGlobals "InvalidWorld" = some (some (.ref C_InvalidWorld)))
    (FN_WayError : ZX.SupFn l.prog K ai_WayError C_WayError "WayError.__init__" (defArgs s_WayError___init__) (defBody s_WayError___init__) (defScope s_WayError___init__))
    (FN_InvalidWorld : ZX.SupFn l.prog K ai_InvalidWorld C_InvalidWorld "InvalidWorld.__init__" (defArgs s_InvalidWorld___init__) (defBody s_InvalidWorld___init__) (defScope s_InvalidWorld___init__))
    (xb_InvalidWorld : xh2B K C_InvalidWorld C_WayError ai_InvalidWorld ai_WayError [.type "ValueError", .type "Exception", .type "BaseException", .type "object"] "ValueError" "ValueError.__new__" "ValueError.__init__" (.ref ai_WayError) ["tag", "value"] = true)
    (b_super : PySem.W.nsIn K mainGlobals "super" = some none)
    (tp_any : PySem.W.nsIn K cStatics "thirdparty.any" = some none)
    (top_super : (l.prog.main.scope.names.lookup ("super" : Str)).isSome = false)
    : XMk l.prog w K mg base "InvalidWorld" C_InvalidWorld 2 "InvalidWorld" ["value"] := by
  have SMk : L2.Mod K mg base → ZX.SupM l.prog K mg base := fun M => ⟨M, PySem.W.mg_none_of X G b_super, top_super, tp_any⟩
  obtain ⟨kc_InvalidWorld, xi_InvalidWorld, xo_InvalidWorld, xk_InvalidWorld, xs_InvalidWorld, xD_InvalidWorld, xI_InvalidWorld, xt_InvalidWorld, xB_InvalidWorld, xR_InvalidWorld, xT_InvalidWorld, xm_InvalidWorld_InvalidWorld, xu_InvalidWorld_InvalidWorld, xm_InvalidWorld_WayError, xu_InvalidWorld_WayError, xg_WayError, xh_WayError, _, _⟩ := xh2_ok xb_InvalidWorld
  have xa_InvalidWorld_tag : PySem.W.findIn K (.ref C_InvalidWorld) "tag" = some none := (xh2_ok xb_InvalidWorld).at_ (by decide +kernel)
  have xa_InvalidWorld_value : PySem.W.findIn K (.ref C_InvalidWorld) "value" = some none := (xh2_ok xb_InvalidWorld).at_ (by decide +kernel)
  have TX_InvalidWorld : ZX.ExC K C_InvalidWorld [.type "ValueError", .type "Exception", .type "BaseException", .type "object"] "ValueError.__new__" := ⟨xi_InvalidWorld, xo_InvalidWorld, xk_InvalidWorld, xs_InvalidWorld⟩
  refine ⟨PySem.W.mg_of X G h_InvalidWorld, kc_InvalidWorld, fun M => ⟨"ValueError", "ValueError.__new__", "ValueError.__init__", _, ai_InvalidWorld, PySem.F.excBase_ValueError, xi_InvalidWorld, xI_InvalidWorld, xt_InvalidWorld, ?_⟩, xB_InvalidWorld, xT_InvalidWorld⟩
  have F2 : ZX.InitOk l.prog w base 1 ai_WayError C_InvalidWorld ZX.G1 := ZX.initBase PySem.W.kxs_ValueError PySem.F.excBase_ValueError PySem.F.store_ValueError (SMk M) FN_WayError ss_WayError TX_InvalidWorld xD_InvalidWorld po_WayError xm_InvalidWorld_WayError xu_InvalidWorld_WayError xR_InvalidWorld xa_InvalidWorld_tag rfl (fun env => ⟨rfl, rfl, ⟨_, rfl⟩⟩) (fun env => rfl) (r0 := (fun v => v "tag")) (r1 := (fun v => v "tag")) (fun env vof h => ZX.Rd1.par (by show env.scope.names.lookup _ = _; rw [h]; rfl) rfl) (fun env vof h => ZX.Rd1.par (by show env.scope.names.lookup _ = _; rw [h]; rfl) rfl) (fun v1 v2 h => h "tag" (by simp))
  have F1 := ZX.initOwn (l := (["value"] : List Str).map fun p => (p, p)) F2 PySem.F.store_ValueError (SMk M) FN_InvalidWorld ss_InvalidWorld TX_InvalidWorld xD_InvalidWorld po_InvalidWorld xm_InvalidWorld_InvalidWorld xu_InvalidWorld_InvalidWorld xg_WayError xh_WayError rfl (fun env => ⟨rfl, rfl, ⟨_, rfl⟩⟩) (r0 := fun _ => V.str "InvalidWorld") (fun env vof h => ZX.Rd1.txt) (fun v1 v2 h => rfl) (fun env h => .cons rfl (by show env.scope.names.lookup _ = _; rw [h]; rfl) rfl (.nil)) (fun fp hm => by
    simp only [List.map_cons, List.map_nil, List.mem_cons, List.not_mem_nil, or_false] at hm
    subst hm; exact ⟨xa_InvalidWorld_value, by simp⟩) (by simp) (fun vs fs h => by unfold ZX.G1 at h; split at h <;> cases h; simp)
  exact F1.cast (fun vs => ZX.own_eq (by decide) vs)
theorem xm_XK_InvalidWorld_0 {l : PySem.W.OpenLaw} {w : World} {K : PySem.W.Frag} {h : Heap} {mg : Str → Option Value} {base : Heap}
    {ai_WayError : Addr} {ai_InvalidWorld : Addr} {C_WayError : Addr} {C_InvalidWorld : Addr}
    (X : K.In h) (G : h.Ns mainGlobals mg) (X_InvalidWorld : XMk l.prog w K mg base "InvalidWorld" C_InvalidWorld 2 "InvalidWorld" ["value"])
    (FN_WayError : ZX.SupFn l.prog K ai_WayError C_WayError "WayError.__init__" (defArgs s_WayError___init__) (defBody s_WayError___init__) (defScope s_WayError___init__))
    (FN_InvalidWorld : ZX.SupFn l.prog K ai_InvalidWorld C_InvalidWorld "InvalidWorld.__init__" (defArgs s_InvalidWorld___init__) (defBody s_InvalidWorld___init__) (defScope s_InvalidWorld___init__))
    (xb_InvalidWorld : xh2B K C_InvalidWorld C_WayError ai_InvalidWorld ai_WayError [.type "ValueError", .type "Exception", .type "BaseException", .type "object"] "ValueError" "ValueError.__new__" "ValueError.__init__" (.ref ai_WayError) ["tag", "value"] = true)
    (b_super : PySem.W.nsIn K mainGlobals "super" = some none)
    (tp_any : PySem.W.nsIn K cStatics "thirdparty.any" = some none)
    (top_super : (l.prog.main.scope.names.lookup ("super" : Str)).isSome = false)
    : XMkK l.prog w K mg base "InvalidWorld" C_InvalidWorld 2 "InvalidWorld" ["value"] ["value"] [0] [0] := by
  have SMk : L2.Mod K mg base → ZX.SupM l.prog K mg base := fun M => ⟨M, PySem.W.mg_none_of X G b_super, top_super, tp_any⟩
  obtain ⟨kc_InvalidWorld, xi_InvalidWorld, xo_InvalidWorld, xk_InvalidWorld, xs_InvalidWorld, xD_InvalidWorld, xI_InvalidWorld, xt_InvalidWorld, xB_InvalidWorld, xR_InvalidWorld, xT_InvalidWorld, xm_InvalidWorld_InvalidWorld, xu_InvalidWorld_InvalidWorld, xm_InvalidWorld_WayError, xu_InvalidWorld_WayError, xg_WayError, xh_WayError, _, _⟩ := xh2_ok xb_InvalidWorld
  have xa_InvalidWorld_tag : PySem.W.findIn K (.ref C_InvalidWorld) "tag" = some none := (xh2_ok xb_InvalidWorld).at_ (by decide +kernel)
  have xa_InvalidWorld_value : PySem.W.findIn K (.ref C_InvalidWorld) "value" = some none := (xh2_ok xb_InvalidWorld).at_ (by decide +kernel)
  have TX_InvalidWorld : ZX.ExC K C_InvalidWorld [.type "ValueError", .type "Exception", .type "BaseException", .type "object"] "ValueError.__new__" := ⟨xi_InvalidWorld, xo_InvalidWorld, xk_InvalidWorld, xs_InvalidWorld⟩
  refine ⟨X_InvalidWorld, fun M => ⟨"ValueError", "ValueError.__new__", "ValueError.__init__", _, ai_InvalidWorld, PySem.F.excBase_ValueError, xi_InvalidWorld, xI_InvalidWorld, xt_InvalidWorld, ?_⟩, fun ws h => match ws, h with | [_], _ => rfl, fun ws h => match ws, h with | [_], _ => rfl⟩
  have F2 : ZX.InitOk l.prog w base 1 ai_WayError C_InvalidWorld ZX.G1 := ZX.initBase PySem.W.kxs_ValueError PySem.F.excBase_ValueError PySem.F.store_ValueError (SMk M) FN_WayError ss_WayError TX_InvalidWorld xD_InvalidWorld po_WayError xm_InvalidWorld_WayError xu_InvalidWorld_WayError xR_InvalidWorld xa_InvalidWorld_tag rfl (fun env => ⟨rfl, rfl, ⟨_, rfl⟩⟩) (fun env => rfl) (r0 := (fun v => v "tag")) (r1 := (fun v => v "tag")) (fun env vof h => ZX.Rd1.par (by show env.scope.names.lookup _ = _; rw [h]; rfl) rfl) (fun env vof h => ZX.Rd1.par (by show env.scope.names.lookup _ = _; rw [h]; rfl) rfl) (fun v1 v2 h => h "tag" (by simp))
  have F1 := ZX.initOwnA (mk := fun us => ⟨us.take 1, (["value"] : List Str).zip (pickL [0] (us.drop 1))⟩) (fun fd us h hd hl => by
    obtain ⟨⟩ := fd
    cases h
    cases hd
    exact match us, hl with | [_, _], _ => rfl) (l := (["value"] : List Str).map fun p => (p, p)) F2 PySem.F.store_ValueError (SMk M) FN_InvalidWorld ss_InvalidWorld TX_InvalidWorld xD_InvalidWorld po_InvalidWorld xm_InvalidWorld_InvalidWorld xu_InvalidWorld_InvalidWorld xg_WayError xh_WayError rfl (fun env => ⟨rfl, rfl, ⟨_, rfl⟩⟩) (r0 := fun _ => V.str "InvalidWorld") (fun env vof h => ZX.Rd1.txt) (fun v1 v2 h => rfl) (fun env h => .cons rfl (by show env.scope.names.lookup _ = _; rw [h]; rfl) rfl (.nil)) (fun fp hm => by
    simp only [List.map_cons, List.map_nil, List.mem_cons, List.not_mem_nil, or_false] at hm
    subst hm; exact ⟨xa_InvalidWorld_value, by simp⟩) (by simp) (fun vs fs h => by unfold ZX.G1 at h; split at h <;> cases h; simp)
  exact F1.cast (fun vs => ZX.own_eq (by decide) vs)
theorem xm_X_InvalidElement {l : PySem.W.OpenLaw} {w : World} {K : PySem.W.Frag} {h : Heap} {mg : Str → Option Value} {base : Heap}
    {ai_WayError : Addr} {ai_InvalidElement : Addr} {C_WayError : Addr} {C_InvalidElement : Addr}
    (X : K.In h) (G : h.Ns mainGlobals mg)
    (h_InvalidElement : PySem.W.nsIn K mainGlobals "InvalidElement" = some (some (.ref C_InvalidElement)))
    (FN_WayError : ZX.SupFn l.prog K ai_WayError C_WayError "WayError.__init__" (defArgs s_WayError___init__) (defBody s_WayError___init__) (defScope s_WayError___init__))
    (FN_InvalidElement : ZX.SupFn l.prog K ai_InvalidElement C_InvalidElement "InvalidElement.__init__" (defArgs s_InvalidElement___init__) (defBody s_InvalidElement___init__) (defScope s_InvalidElement___init__))
    (xb_InvalidElement : xh2B K C_InvalidElement C_WayError ai_InvalidElement ai_WayError [.type "ValueError", .type "Exception", .type "BaseException", .type "object"] "ValueError" "ValueError.__new__" "ValueError.__init__" (.ref ai_WayError) ["tag", "value"] = true)
    (b_super : PySem.W.nsIn K mainGlobals "super" = some none)
    (tp_any : PySem.W.nsIn K cStatics "thirdparty.any" = some none)
    (top_super : (l.prog.main.scope.names.lookup ("super" : Str)).isSome = false)
    : XMk l.prog w K mg base "InvalidElement" C_InvalidElement 2 "InvalidElement" ["value"] := by
  have SMk : L2.Mod K mg base → ZX.SupM l.prog K mg base := fun M => ⟨M, PySem.W.mg_none_of X G b_super, top_super, tp_any⟩
  obtain ⟨kc_InvalidElement, xi_InvalidElement, xo_InvalidElement, xk_InvalidElement, xs_InvalidElement, xD_InvalidElement, xI_InvalidElement, xt_InvalidElement, xB_InvalidElement, xR_InvalidElement, xT_InvalidElement, xm_InvalidElement_InvalidElement, xu_InvalidElement_InvalidElement, xm_InvalidElement_WayError, xu_InvalidElement_WayError, xg_WayError, xh_WayError, _, _⟩ := xh2_ok xb_InvalidElement
  have xa_InvalidElement_tag : PySem.W.findIn K (.ref C_InvalidElement) "tag" = some none := (xh2_ok xb_InvalidElement).at_ (by decide +kernel)
  have xa_InvalidElement_value : PySem.W.findIn K (.ref C_InvalidElement) "value" = some none := (xh2_ok xb_InvalidElement).at_ (by decide +kernel)
  have TX_InvalidElement : ZX.ExC K C_InvalidElement [.type "ValueError", .type "Exception", .type "BaseException", .type "object"] "ValueError.__new__" := ⟨xi_InvalidElement, xo_InvalidElement, xk_InvalidElement, xs_InvalidElement⟩
  refine ⟨PySem.W.mg_of X G h_InvalidElement, kc_InvalidElement, fun M => ⟨"ValueError", "ValueError.__new__", "ValueError.__init__", _, ai_InvalidElement, PySem.F.excBase_ValueError, xi_InvalidElement, xI_InvalidElement, xt_InvalidElement, ?_⟩, xB_InvalidElement, xT_InvalidElement⟩
  have F2 : ZX.InitOk l.prog w base 1 ai_WayError C_InvalidElement ZX.G1 := ZX.initBase PySem.W.kxs_ValueError PySem.F.excBase_ValueError PySem.F.store_ValueError (SMk M) FN_WayError ss_WayError TX_InvalidElement xD_InvalidElement po_WayError xm_InvalidElement_WayError xu_InvalidElement_WayError xR_InvalidElement xa_InvalidElement_tag rfl (fun env => ⟨rfl, rfl, ⟨_, rfl⟩⟩) (fun env => rfl) (r0 := (fun v => v "tag")) (r1 := (fun v => v "tag")) (fun env vof h => ZX.Rd1.par (by show env.scope.names.lookup _ = _; rw [h]; rfl) rfl) (fun env vof h => ZX.Rd1.par (by show env.scope.names.lookup _ = _; rw [h]; rfl) rfl) (fun v1 v2 h => h "tag" (by simp))
  have F1 := ZX.initOwn (l := (["value"] : List Str).map fun p => (p, p)) F2 PySem.F.store_ValueError (SMk M) FN_InvalidElement ss_InvalidElement TX_InvalidElement xD_InvalidElement po_InvalidElement xm_InvalidElement_InvalidElement xu_InvalidElement_InvalidElement xg_WayError xh_WayError rfl (fun env => ⟨rfl, rfl, ⟨_, rfl⟩⟩) (r0 := fun _ => V.str "InvalidElement") (fun env vof h => ZX.Rd1.txt) (fun v1 v2 h => rfl) (fun env h => .cons rfl (by show env.scope.names.lookup _ = _; rw [h]; rfl) rfl (.nil)) (fun fp hm => by
    simp only [List.map_cons, List.map_nil, List.mem_cons, List.not_mem_nil, or_false] at hm
    subst hm; exact ⟨xa_InvalidElement_value, by simp⟩) (by simp) (fun vs fs h => by unfold ZX.G1 at h; split at h <;> cases h; simp)
  exact F1.cast (fun vs => ZX.own_eq (by decide) vs)
theorem xm_X_InvalidText {l : PySem.W.OpenLaw} {w : World} {K : PySem.W.Frag} {h : Heap} {mg : Str → Option Value} {base : Heap}
    {ai_WayError : Addr} {ai_InvalidText : Addr} {C_WayError : Addr} {C_InvalidText : Addr}
    (X : K.In h) (G : h.Ns mainGlobals mg)
    (h_InvalidText : PySem.W.nsIn K mainGlobals "InvalidText" = some (some (.ref C_InvalidText)))
    (FN_WayError : ZX.SupFn l.prog K ai_WayError C_WayError "WayError.__init__" (defArgs s_WayError___init__) (defBody s_WayError___init__) (defScope s_WayError___init__))
    (FN_InvalidText : ZX.SupFn l.prog K ai_InvalidText C_InvalidText "InvalidText.__init__" (defArgs s_InvalidText___init__) (defBody s_InvalidText___init__) (defScope s_InvalidText___init__))
    (xb_InvalidText : xh2B K C_InvalidText C_WayError ai_InvalidText ai_WayError [.type "ValueError", .type "Exception", .type "BaseException", .type "object"] "ValueError" "ValueError.__new__" "ValueError.__init__" (.ref ai_WayError) ["tag", "given"] = true)
    (b_super : PySem.W.nsIn K mainGlobals "super" = some none)
    (tp_any : PySem.W.nsIn K cStatics "thirdparty.any" = some none)
    (top_super : (l.prog.main.scope.names.lookup ("super" : Str)).isSome = false)
    : XMk l.prog w K mg base "InvalidText" C_InvalidText 2 "InvalidText" ["given"] := by
  have SMk : L2.Mod K mg base → ZX.SupM l.prog K mg base := fun M => ⟨M, PySem.W.mg_none_of X G b_super, top_super, tp_any⟩
  obtain ⟨kc_InvalidText, xi_InvalidText, xo_InvalidText, xk_InvalidText, xs_InvalidText, xD_InvalidText, xI_InvalidText, xt_InvalidText, xB_InvalidText, xR_InvalidText, xT_InvalidText, xm_InvalidText_InvalidText, xu_InvalidText_InvalidText, xm_InvalidText_WayError, xu_InvalidText_WayError, xg_WayError, xh_WayError, _, _⟩ := xh2_ok xb_InvalidText
  have xa_InvalidText_tag : PySem.W.findIn K (.ref C_InvalidText) "tag" = some none := (xh2_ok xb_InvalidText).at_ (by decide +kernel)
  have xa_InvalidText_given : PySem.W.findIn K (.ref C_InvalidText) "given" = some none := (xh2_ok xb_InvalidText).at_ (by decide +kernel)
  have TX_InvalidText : ZX.ExC K C_InvalidText [.type "ValueError", .type "Exception", .type "BaseException", .type "object"] "ValueError.__new__" := ⟨xi_InvalidText, xo_InvalidText, xk_InvalidText, xs_InvalidText⟩
  refine ⟨PySem.W.mg_of X G h_InvalidText, kc_InvalidText, fun M => ⟨"ValueError", "ValueError.__new__", "ValueError.__init__", _, ai_InvalidText, PySem.F.excBase_ValueError, xi_InvalidText, xI_InvalidText, xt_InvalidText, ?_⟩, xB_InvalidText, xT_InvalidText⟩
  have F2 : ZX.InitOk l.prog w base 1 ai_WayError C_InvalidText ZX.G1 := ZX.initBase PySem.W.kxs_ValueError PySem.F.excBase_ValueError PySem.F.store_ValueError (SMk M) FN_WayError ss_WayError TX_InvalidText xD_InvalidText po_WayError xm_InvalidText_WayError xu_InvalidText_WayError xR_InvalidText xa_InvalidText_tag rfl (fun env => ⟨rfl, rfl, ⟨_, rfl⟩⟩) (fun env => rfl) (r0 := (fun v => v "tag")) (r1 := (fun v => v "tag")) (fun env vof h => ZX.Rd1.par (by show env.scope.names.lookup _ = _; rw [h]; rfl) rfl) (fun env vof h => ZX.Rd1.par (by show env.scope.names.lookup _ = _; rw [h]; rfl) rfl) (fun v1 v2 h => h "tag" (by simp))
  have F1 := ZX.initOwn (l := (["given"] : List Str).map fun p => (p, p)) F2 PySem.F.store_ValueError (SMk M) FN_InvalidText ss_InvalidText TX_InvalidText xD_InvalidText po_InvalidText xm_InvalidText_InvalidText xu_InvalidText_InvalidText xg_WayError xh_WayError rfl (fun env => ⟨rfl, rfl, ⟨_, rfl⟩⟩) (r0 := fun _ => V.str "InvalidText") (fun env vof h => ZX.Rd1.txt) (fun v1 v2 h => rfl) (fun env h => .cons rfl (by show env.scope.names.lookup _ = _; rw [h]; rfl) rfl (.nil)) (fun fp hm => by
    simp only [List.map_cons, List.map_nil, List.mem_cons, List.not_mem_nil, or_false] at hm
    subst hm; exact ⟨xa_InvalidText_given, by simp⟩) (by simp) (fun vs fs h => by unfold ZX.G1 at h; split at h <;> cases h; simp)
  exact F1.cast (fun vs => ZX.own_eq (by decide) vs)
theorem xm_XK_InvalidText_0 {l : PySem.W.OpenLaw} {w : World} {K : PySem.W.Frag} {h : Heap} {mg : Str → Option Value} {base : Heap}
    {ai_WayError : Addr} {ai_InvalidText : Addr} {C_WayError : Addr} {C_InvalidText : Addr}
    (X : K.In h) (G : h.Ns mainGlobals mg) (X_InvalidText : XMk l.prog w K mg base "InvalidText" C_InvalidText 2 "InvalidText" ["given"])
    (FN_WayError : ZX.SupFn l.prog K ai_WayError C_WayError "WayError.__init__" (defArgs s_WayError___init__) (defBody s_WayError___init__) (defScope s_WayError___init__))
    (FN_InvalidText : ZX.SupFn l.prog K ai_InvalidText C_InvalidText "InvalidText.__init__" (defArgs s_InvalidText___init__) (defBody s_InvalidText___init__) (defScope s_InvalidText___init__))
    (xb_InvalidText : xh2B K C_InvalidText C_WayError ai_InvalidText ai_WayError [.type "ValueError", .type "Exception", .type "BaseException", .type "object"] "ValueError" "ValueError.__new__" "ValueError.__init__" (.ref ai_WayError) ["tag", "given"] = true)
    (b_super : PySem.W.nsIn K mainGlobals "super" = some none)
    (tp_any : PySem.W.nsIn K cStatics "thirdparty.any" = some none)
    (top_super : (l.prog.main.scope.names.lookup ("super" : Str)).isSome = false)
    : XMkK l.prog w K mg base "InvalidText" C_InvalidText 2 "InvalidText" ["given"] ["given"] [0] [0] := by
  have SMk : L2.Mod K mg base → ZX.SupM l.prog K mg base := fun M => ⟨M, PySem.W.mg_none_of X G b_super, top_super, tp_any⟩
  obtain ⟨kc_InvalidText, xi_InvalidText, xo_InvalidText, xk_InvalidText, xs_InvalidText, xD_InvalidText, xI_InvalidText, xt_InvalidText, xB_InvalidText, xR_InvalidText, xT_InvalidText, xm_InvalidText_InvalidText, xu_InvalidText_InvalidText, xm_InvalidText_WayError, xu_InvalidText_WayError, xg_WayError, xh_WayError, _, _⟩ := xh2_ok xb_InvalidText
  have xa_InvalidText_tag : PySem.W.findIn K (.ref C_InvalidText) "tag" = some none := (xh2_ok xb_InvalidText).at_ (by decide +kernel)
  have xa_InvalidText_given : PySem.W.findIn K (.ref C_InvalidText) "given" = some none := (xh2_ok xb_InvalidText).at_ (by decide +kernel)
  have TX_InvalidText : ZX.ExC K C_InvalidText [.type "ValueError", .type "Exception", .type "BaseException", .type "object"] "ValueError.__new__" := ⟨xi_InvalidText, xo_InvalidText, xk_InvalidText, xs_InvalidText⟩
  refine ⟨X_InvalidText, fun M => ⟨"ValueError", "ValueError.__new__", "ValueError.__init__", _, ai_InvalidText, PySem.F.excBase_ValueError, xi_InvalidText, xI_InvalidText, xt_InvalidText, ?_⟩, fun ws h => match ws, h with | [_], _ => rfl, fun ws h => match ws, h with | [_], _ => rfl⟩
  have F2 : ZX.InitOk l.prog w base 1 ai_WayError C_InvalidText ZX.G1 := ZX.initBase PySem.W.kxs_ValueError PySem.F.excBase_ValueError PySem.F.store_ValueError (SMk M) FN_WayError ss_WayError TX_InvalidText xD_InvalidText po_WayError xm_InvalidText_WayError xu_InvalidText_WayError xR_InvalidText xa_InvalidText_tag rfl (fun env => ⟨rfl, rfl, ⟨_, rfl⟩⟩) (fun env => rfl) (r0 := (fun v => v "tag")) (r1 := (fun v => v "tag")) (fun env vof h => ZX.Rd1.par (by show env.scope.names.lookup _ = _; rw [h]; rfl) rfl) (fun env vof h => ZX.Rd1.par (by show env.scope.names.lookup _ = _; rw [h]; rfl) rfl) (fun v1 v2 h => h "tag" (by simp))
  have F1 := ZX.initOwnA (mk := fun us => ⟨us.take 1, (["given"] : List Str).zip (pickL [0] (us.drop 1))⟩) (fun fd us h hd hl => by
    obtain ⟨⟩ := fd
    cases h
    cases hd
    exact match us, hl with | [_, _], _ => rfl) (l := (["given"] : List Str).map fun p => (p, p)) F2 PySem.F.store_ValueError (SMk M) FN_InvalidText ss_InvalidText TX_InvalidText xD_InvalidText po_InvalidText xm_InvalidText_InvalidText xu_InvalidText_InvalidText xg_WayError xh_WayError rfl (fun env => ⟨rfl, rfl, ⟨_, rfl⟩⟩) (r0 := fun _ => V.str "InvalidText") (fun env vof h => ZX.Rd1.txt) (fun v1 v2 h => rfl) (fun env h => .cons rfl (by show env.scope.names.lookup _ = _; rw [h]; rfl) rfl (.nil)) (fun fp hm => by
    simp only [List.map_cons, List.map_nil, List.mem_cons, List.not_mem_nil, or_false] at hm
    subst hm; exact ⟨xa_InvalidText_given, by simp⟩) (by simp) (fun vs fs h => by unfold ZX.G1 at h; split at h <;> cases h; simp)
  exact F1.cast (fun vs => ZX.own_eq (by decide) vs)
theorem xm_X_InvalidProgram {l : PySem.W.OpenLaw} {w : World} {K : PySem.W.Frag} {h : Heap} {mg : Str → Option Value} {base : Heap}
    {ai_WayError : Addr} {ai_InvalidProgram : Addr} {C_WayError : Addr} {C_InvalidProgram : Addr}
    (X : K.In h) (G : h.Ns mainGlobals mg)
    (h_InvalidProgram : PySem.W.nsIn K mainGlobals "InvalidProgram" = some (some (.ref C_InvalidProgram)))
    (FN_WayError : ZX.SupFn l.prog K ai_WayError C_WayError "WayError.__init__" (defArgs s_WayError___init__) (defBody s_WayError___init__) (defScope s_WayError___init__))
    (FN_InvalidProgram : ZX.SupFn l.prog K ai_InvalidProgram C_InvalidProgram "InvalidProgram.__init__" (defArgs s_InvalidProgram___init__) (defBody s_InvalidProgram___init__) (defScope s_InvalidProgram___init__))
    (xb_InvalidProgram : xh2B K C_InvalidProgram C_WayError ai_InvalidProgram ai_WayError [.type "ValueError", .type "Exception", .type "BaseException", .type "object"] "ValueError" "ValueError.__new__" "ValueError.__init__" (.ref ai_WayError) ["tag", "part"] = true)
    (b_super : PySem.W.nsIn K mainGlobals "super" = some none)
    (tp_any : PySem.W.nsIn K cStatics "thirdparty.any" = some none)
    (top_super : (l.prog.main.scope.names.lookup ("super" : Str)).isSome = false)
    : XMk l.prog w K mg base "InvalidProgram" C_InvalidProgram 2 "InvalidProgram" ["part"] := by
  have SMk : L2.Mod K mg base → ZX.SupM l.prog K mg base := fun M => ⟨M, PySem.W.mg_none_of X G b_super, top_super, tp_any⟩
  obtain ⟨kc_InvalidProgram, xi_InvalidProgram, xo_InvalidProgram, xk_InvalidProgram, xs_InvalidProgram, xD_InvalidProgram, xI_InvalidProgram, xt_InvalidProgram, xB_InvalidProgram, xR_InvalidProgram, xT_InvalidProgram, xm_InvalidProgram_InvalidProgram, xu_InvalidProgram_InvalidProgram, xm_InvalidProgram_WayError, xu_InvalidProgram_WayError, xg_WayError, xh_WayError, _, _⟩ := xh2_ok xb_InvalidProgram
  have xa_InvalidProgram_tag : PySem.W.findIn K (.ref C_InvalidProgram) "tag" = some none := (xh2_ok xb_InvalidProgram).at_ (by decide +kernel)
  have xa_InvalidProgram_part : PySem.W.findIn K (.ref C_InvalidProgram) "part" = some none := (xh2_ok xb_InvalidProgram).at_ (by decide +kernel)
  have TX_InvalidProgram : ZX.ExC K C_InvalidProgram [.type "ValueError", .type "Exception", .type "BaseException", .type "object"] "ValueError.__new__" := ⟨xi_InvalidProgram, xo_InvalidProgram, xk_InvalidProgram, xs_InvalidProgram⟩
  refine ⟨PySem.W.mg_of X G h_InvalidProgram, kc_InvalidProgram, fun M => ⟨"ValueError", "ValueError.__new__", "ValueError.__init__", _, ai_InvalidProgram, PySem.F.excBase_ValueError, xi_InvalidProgram, xI_InvalidProgram, xt_InvalidProgram, ?_⟩, xB_InvalidProgram, xT_InvalidProgram⟩
  have F2 : ZX.InitOk l.prog w base 1 ai_WayError C_InvalidProgram ZX.G1 := ZX.initBase PySem.W.kxs_ValueError PySem.F.excBase_ValueError PySem.F.store_ValueError (SMk M) FN_WayError ss_WayError TX_InvalidProgram xD_InvalidProgram po_WayError xm_InvalidProgram_WayError xu_InvalidProgram_WayError xR_InvalidProgram xa_InvalidProgram_tag rfl (fun env => ⟨rfl, rfl, ⟨_, rfl⟩⟩) (fun env => rfl) (r0 := (fun v => v "tag")) (r1 := (fun v => v "tag")) (fun env vof h => ZX.Rd1.par (by show env.scope.names.lookup _ = _; rw [h]; rfl) rfl) (fun env vof h => ZX.Rd1.par (by show env.scope.names.lookup _ = _; rw [h]; rfl) rfl) (fun v1 v2 h => h "tag" (by simp))
  have F1 := ZX.initOwn (l := (["part"] : List Str).map fun p => (p, p)) F2 PySem.F.store_ValueError (SMk M) FN_InvalidProgram ss_InvalidProgram TX_InvalidProgram xD_InvalidProgram po_InvalidProgram xm_InvalidProgram_InvalidProgram xu_InvalidProgram_InvalidProgram xg_WayError xh_WayError rfl (fun env => ⟨rfl, rfl, ⟨_, rfl⟩⟩) (r0 := fun _ => V.str "InvalidProgram") (fun env vof h => ZX.Rd1.txt) (fun v1 v2 h => rfl) (fun env h => .cons rfl (by show env.scope.names.lookup _ = _; rw [h]; rfl) rfl (.nil)) (fun fp hm => by
    simp only [List.map_cons, List.map_nil, List.mem_cons, List.not_mem_nil, or_false] at hm
    subst hm; exact ⟨xa_InvalidProgram_part, by simp⟩) (by simp) (fun vs fs h => by unfold ZX.G1 at h; split at h <;> cases h; simp)
  exact F1.cast (fun vs => ZX.own_eq (by decide) vs)
theorem xm_X_InvalidPlan {l : PySem.W.OpenLaw} {w : World} {K : PySem.W.Frag} {h : Heap} {mg : Str → Option Value} {base : Heap}
    {ai_WayError : Addr} {ai_InvalidPlan : Addr} {C_WayError : Addr} {C_InvalidPlan : Addr}
    (X : K.In h) (G : h.Ns mainGlobals mg)
    (h_InvalidPlan : PySem.W.nsIn K mainGlobals "InvalidPlan" = some (some (.ref C_InvalidPlan)))
    (FN_WayError : ZX.SupFn l.prog K ai_WayError C_WayError "WayError.__init__" (defArgs s_WayError___init__) (defBody s_WayError___init__) (defScope s_WayError___init__))
    (FN_InvalidPlan : ZX.SupFn l.prog K ai_InvalidPlan C_InvalidPlan "InvalidPlan.__init__" (defArgs s_InvalidPlan___init__) (defBody s_InvalidPlan___init__) (defScope s_InvalidPlan___init__))
    (xb_InvalidPlan : xh2B K C_InvalidPlan C_WayError ai_InvalidPlan ai_WayError [.type "ValueError", .type "Exception", .type "BaseException", .type "object"] "ValueError" "ValueError.__new__" "ValueError.__init__" (.ref ai_WayError) ["tag", "path"] = true)
    (b_super : PySem.W.nsIn K mainGlobals "super" = some none)
    (tp_any : PySem.W.nsIn K cStatics "thirdparty.any" = some none)
    (top_super : (l.prog.main.scope.names.lookup ("super" : Str)).isSome = false)
    : XMk l.prog w K mg base "InvalidPlan" C_InvalidPlan 2 "InvalidPlan" ["path"] := by
  have SMk : L2.Mod K mg base → ZX.SupM l.prog K mg base := fun M => ⟨M, PySem.W.mg_none_of X G b_super, top_super, tp_any⟩
  obtain ⟨kc_InvalidPlan, xi_InvalidPlan, xo_InvalidPlan, xk_InvalidPlan, xs_InvalidPlan, xD_InvalidPlan, xI_InvalidPlan, xt_InvalidPlan, xB_InvalidPlan, xR_InvalidPlan, xT_InvalidPlan, xm_InvalidPlan_InvalidPlan, xu_InvalidPlan_InvalidPlan, xm_InvalidPlan_WayError, xu_InvalidPlan_WayError, xg_WayError, xh_WayError, _, _⟩ := xh2_ok xb_InvalidPlan
  have xa_InvalidPlan_tag : PySem.W.findIn K (.ref C_InvalidPlan) "tag" = some none := (xh2_ok xb_InvalidPlan).at_ (by decide +kernel)
  have xa_InvalidPlan_path : PySem.W.findIn K (.ref C_InvalidPlan) "path" = some none := (xh2_ok xb_InvalidPlan).at_ (by decide +kernel)
  have TX_InvalidPlan : ZX.ExC K C_InvalidPlan [.type "ValueError", .type "Exception", .type "BaseException", .type "object"] "ValueError.__new__" := ⟨xi_InvalidPlan, xo_InvalidPlan, xk_InvalidPlan, xs_InvalidPlan⟩
  refine ⟨PySem.W.mg_of X G h_InvalidPlan, kc_InvalidPlan, fun M => ⟨"ValueError", "ValueError.__new__", "ValueError.__init__", _, ai_InvalidPlan, PySem.F.excBase_ValueError, xi_InvalidPlan, xI_InvalidPlan, xt_InvalidPlan, ?_⟩, xB_InvalidPlan, xT_InvalidPlan⟩
  have F2 : ZX.InitOk l.prog w base 1 ai_WayError C_InvalidPlan ZX.G1 := ZX.initBase PySem.W.kxs_ValueError PySem.F.excBase_ValueError PySem.F.store_ValueError (SMk M) FN_WayError ss_WayError TX_InvalidPlan xD_InvalidPlan po_WayError xm_InvalidPlan_WayError xu_InvalidPlan_WayError xR_InvalidPlan xa_InvalidPlan_tag rfl (fun env => ⟨rfl, rfl, ⟨_, rfl⟩⟩) (fun env => rfl) (r0 := (fun v => v "tag")) (r1 := (fun v => v "tag")) (fun env vof h => ZX.Rd1.par (by show env.scope.names.lookup _ = _; rw [h]; rfl) rfl) (fun env vof h => ZX.Rd1.par (by show env.scope.names.lookup _ = _; rw [h]; rfl) rfl) (fun v1 v2 h => h "tag" (by simp))
  have F1 := ZX.initOwn (l := (["path"] : List Str).map fun p => (p, p)) F2 PySem.F.store_ValueError (SMk M) FN_InvalidPlan ss_InvalidPlan TX_InvalidPlan xD_InvalidPlan po_InvalidPlan xm_InvalidPlan_InvalidPlan xu_InvalidPlan_InvalidPlan xg_WayError xh_WayError rfl (fun env => ⟨rfl, rfl, ⟨_, rfl⟩⟩) (r0 := fun _ => V.str "InvalidPlan") (fun env vof h => ZX.Rd1.txt) (fun v1 v2 h => rfl) (fun env h => .cons rfl (by show env.scope.names.lookup _ = _; rw [h]; rfl) rfl (.nil)) (fun fp hm => by
    simp only [List.map_cons, List.map_nil, List.mem_cons, List.not_mem_nil, or_false] at hm
    subst hm; exact ⟨xa_InvalidPlan_path, by simp⟩) (by simp) (fun vs fs h => by unfold ZX.G1 at h; split at h <;> cases h; simp)
  exact F1.cast (fun vs => ZX.own_eq (by decide) vs)
theorem xm_XK_InvalidPlan_0 {l : PySem.W.OpenLaw} {w : World} {K : PySem.W.Frag} {h : Heap} {mg : Str → Option Value} {base : Heap}
    {ai_WayError : Addr} {ai_InvalidPlan : Addr} {C_WayError : Addr} {C_InvalidPlan : Addr}
    (X : K.In h) (G : h.Ns mainGlobals mg) (X_InvalidPlan : XMk l.prog w K mg base "InvalidPlan" C_InvalidPlan 2 "InvalidPlan" ["path"])
    (FN_WayError : ZX.SupFn l.prog K ai_WayError C_WayError "WayError.__init__" (defArgs s_WayError___init__) (defBody s_WayError___init__) (defScope s_WayError___init__))
    (FN_InvalidPlan : ZX.SupFn l.prog K ai_InvalidPlan C_InvalidPlan "InvalidPlan.__init__" (defArgs s_InvalidPlan___init__) (defBody s_InvalidPlan___init__) (defScope s_InvalidPlan___init__))
    (xb_InvalidPlan : xh2B K C_InvalidPlan C_WayError ai_InvalidPlan ai_WayError [.type "ValueError", .type "Exception", .type "BaseException", .type "object"] "ValueError" "ValueError.__new__" "ValueError.__init__" (.ref ai_WayError) ["tag", "path"] = true)
    (b_super : PySem.W.nsIn K mainGlobals "super" = some none)
    (tp_any : PySem.W.nsIn K cStatics "thirdparty.any" = some none)
    (top_super : (l.prog.main.scope.names.lookup ("super" : Str)).isSome = false)
    : XMkK l.prog w K mg base "InvalidPlan" C_InvalidPlan 2 "InvalidPlan" ["path"] ["path"] [0] [0] := by
  have SMk : L2.Mod K mg base → ZX.SupM l.prog K mg base := fun M => ⟨M, PySem.W.mg_none_of X G b_super, top_super, tp_any⟩
  obtain ⟨kc_InvalidPlan, xi_InvalidPlan, xo_InvalidPlan, xk_InvalidPlan, xs_InvalidPlan, xD_InvalidPlan, xI_InvalidPlan, xt_InvalidPlan, xB_InvalidPlan, xR_InvalidPlan, xT_InvalidPlan, xm_InvalidPlan_InvalidPlan, xu_InvalidPlan_InvalidPlan, xm_InvalidPlan_WayError, xu_InvalidPlan_WayError, xg_WayError, xh_WayError, _, _⟩ := xh2_ok xb_InvalidPlan
  have xa_InvalidPlan_tag : PySem.W.findIn K (.ref C_InvalidPlan) "tag" = some none := (xh2_ok xb_InvalidPlan).at_ (by decide +kernel)
  have xa_InvalidPlan_path : PySem.W.findIn K (.ref C_InvalidPlan) "path" = some none := (xh2_ok xb_InvalidPlan).at_ (by decide +kernel)
  have TX_InvalidPlan : ZX.ExC K C_InvalidPlan [.type "ValueError", .type "Exception", .type "BaseException", .type "object"] "ValueError.__new__" := ⟨xi_InvalidPlan, xo_InvalidPlan, xk_InvalidPlan, xs_InvalidPlan⟩
  refine ⟨X_InvalidPlan, fun M => ⟨"ValueError", "ValueError.__new__", "ValueError.__init__", _, ai_InvalidPlan, PySem.F.excBase_ValueError, xi_InvalidPlan, xI_InvalidPlan, xt_InvalidPlan, ?_⟩, fun ws h => match ws, h with | [_], _ => rfl, fun ws h => match ws, h with | [_], _ => rfl⟩
  have F2 : ZX.InitOk l.prog w base 1 ai_WayError C_InvalidPlan ZX.G1 := ZX.initBase PySem.W.kxs_ValueError PySem.F.excBase_ValueError PySem.F.store_ValueError (SMk M) FN_WayError ss_WayError TX_InvalidPlan xD_InvalidPlan po_WayError xm_InvalidPlan_WayError xu_InvalidPlan_WayError xR_InvalidPlan xa_InvalidPlan_tag rfl (fun env => ⟨rfl, rfl, ⟨_, rfl⟩⟩) (fun env => rfl) (r0 := (fun v => v "tag")) (r1 := (fun v => v "tag")) (fun env vof h => ZX.Rd1.par (by show env.scope.names.lookup _ = _; rw [h]; rfl) rfl) (fun env vof h => ZX.Rd1.par (by show env.scope.names.lookup _ = _; rw [h]; rfl) rfl) (fun v1 v2 h => h "tag" (by simp))
  have F1 := ZX.initOwnA (mk := fun us => ⟨us.take 1, (["path"] : List Str).zip (pickL [0] (us.drop 1))⟩) (fun fd us h hd hl => by
    obtain ⟨⟩ := fd
    cases h
    cases hd
    exact match us, hl with | [_, _], _ => rfl) (l := (["path"] : List Str).map fun p => (p, p)) F2 PySem.F.store_ValueError (SMk M) FN_InvalidPlan ss_InvalidPlan TX_InvalidPlan xD_InvalidPlan po_InvalidPlan xm_InvalidPlan_InvalidPlan xu_InvalidPlan_InvalidPlan xg_WayError xh_WayError rfl (fun env => ⟨rfl, rfl, ⟨_, rfl⟩⟩) (r0 := fun _ => V.str "InvalidPlan") (fun env vof h => ZX.Rd1.txt) (fun v1 v2 h => rfl) (fun env h => .cons rfl (by show env.scope.names.lookup _ = _; rw [h]; rfl) rfl (.nil)) (fun fp hm => by
    simp only [List.map_cons, List.map_nil, List.mem_cons, List.not_mem_nil, or_false] at hm
    subst hm; exact ⟨xa_InvalidPlan_path, by simp⟩) (by simp) (fun vs fs h => by unfold ZX.G1 at h; split at h <;> cases h; simp)
  exact F1.cast (fun vs => ZX.own_eq (by decide) vs)
theorem xm_X_EmptyLoop {l : PySem.W.OpenLaw} {w : World} {K : PySem.W.Frag} {h : Heap} {mg : Str → Option Value} {base : Heap}
    {ai_WayError : Addr} {ai_EmptyLoop : Addr} {C_WayError : Addr} {C_EmptyLoop : Addr}
    (X : K.In h) (G : h.Ns mainGlobals mg)
    (h_EmptyLoop : PySem.W.nsIn K mainGlobals "EmptyLoop" = some (some (.ref C_EmptyLoop)))
    (FN_WayError : ZX.SupFn l.prog K ai_WayError C_WayError "WayError.__init__" (defArgs s_WayError___init__) (defBody s_WayError___init__) (defScope s_WayError___init__))
    (FN_EmptyLoop : ZX.SupFn l.prog K ai_EmptyLoop C_EmptyLoop "EmptyLoop.__init__" (defArgs s_EmptyLoop___init__) (defBody s_EmptyLoop___init__) (defScope s_EmptyLoop___init__))
    (xb_EmptyLoop : xh2B K C_EmptyLoop C_WayError ai_EmptyLoop ai_WayError [.type "ValueError", .type "Exception", .type "BaseException", .type "object"] "ValueError" "ValueError.__new__" "ValueError.__init__" (.ref ai_WayError) ["tag", "path"] = true)
    (b_super : PySem.W.nsIn K mainGlobals "super" = some none)
    (tp_any : PySem.W.nsIn K cStatics "thirdparty.any" = some none)
    (top_super : (l.prog.main.scope.names.lookup ("super" : Str)).isSome = false)
    : XMk l.prog w K mg base "EmptyLoop" C_EmptyLoop 2 "EmptyLoop" ["path"] := by
  have SMk : L2.Mod K mg base → ZX.SupM l.prog K mg base := fun M => ⟨M, PySem.W.mg_none_of X G b_super, top_super, tp_any⟩
  obtain ⟨kc_EmptyLoop, xi_EmptyLoop, xo_EmptyLoop, xk_EmptyLoop, xs_EmptyLoop, xD_EmptyLoop, xI_EmptyLoop, xt_EmptyLoop, xB_EmptyLoop, xR_EmptyLoop, xT_EmptyLoop, xm_EmptyLoop_EmptyLoop, xu_EmptyLoop_EmptyLoop, xm_EmptyLoop_WayError, xu_EmptyLoop_WayError, xg_WayError, xh_WayError, _, _⟩ := xh2_ok xb_EmptyLoop
  have xa_EmptyLoop_tag : PySem.W.findIn K (.ref C_EmptyLoop) "tag" = some none := (xh2_ok xb_EmptyLoop).at_ (by decide +kernel)
  have xa_EmptyLoop_path : PySem.W.findIn K (.ref C_EmptyLoop) "path" = some none := (xh2_ok xb_EmptyLoop).at_ (by decide +kernel)
  have TX_EmptyLoop : ZX.ExC K C_EmptyLoop [.type "ValueError", .type "Exception", .type "BaseException", .type "object"] "ValueError.__new__" := ⟨xi_EmptyLoop, xo_EmptyLoop, xk_EmptyLoop, xs_EmptyLoop⟩
  refine ⟨PySem.W.mg_of X G h_EmptyLoop, kc_EmptyLoop, fun M => ⟨"ValueError", "ValueError.__new__", "ValueError.__init__", _, ai_EmptyLoop, PySem.F.excBase_ValueError, xi_EmptyLoop, xI_EmptyLoop, xt_EmptyLoop, ?_⟩, xB_EmptyLoop, xT_EmptyLoop⟩
  have F2 : ZX.InitOk l.prog w base 1 ai_WayError C_EmptyLoop ZX.G1 := ZX.initBase PySem.W.kxs_ValueError PySem.F.excBase_ValueError PySem.F.store_ValueError (SMk M) FN_WayError ss_WayError TX_EmptyLoop xD_EmptyLoop po_WayError xm_EmptyLoop_WayError xu_EmptyLoop_WayError xR_EmptyLoop xa_EmptyLoop_tag rfl (fun env => ⟨rfl, rfl, ⟨_, rfl⟩⟩) (fun env => rfl) (r0 := (fun v => v "tag")) (r1 := (fun v => v "tag")) (fun env vof h => ZX.Rd1.par (by show env.scope.names.lookup _ = _; rw [h]; rfl) rfl) (fun env vof h => ZX.Rd1.par (by show env.scope.names.lookup _ = _; rw [h]; rfl) rfl) (fun v1 v2 h => h "tag" (by simp))
  have F1 := ZX.initOwn (l := (["path"] : List Str).map fun p => (p, p)) F2 PySem.F.store_ValueError (SMk M) FN_EmptyLoop ss_EmptyLoop TX_EmptyLoop xD_EmptyLoop po_EmptyLoop xm_EmptyLoop_EmptyLoop xu_EmptyLoop_EmptyLoop xg_WayError xh_WayError rfl (fun env => ⟨rfl, rfl, ⟨_, rfl⟩⟩) (r0 := fun _ => V.str "EmptyLoop") (fun env vof h => ZX.Rd1.txt) (fun v1 v2 h => rfl) (fun env h => .cons rfl (by show env.scope.names.lookup _ = _; rw [h]; rfl) rfl (.nil)) (fun fp hm => by
    simp only [List.map_cons, List.map_nil, List.mem_cons, List.not_mem_nil, or_false] at hm
    subst hm; exact ⟨xa_EmptyLoop_path, by simp⟩) (by simp) (fun vs fs h => by unfold ZX.G1 at h; split at h <;> cases h; simp)
  exact F1.cast (fun vs => ZX.own_eq (by decide) vs)
theorem xm_X_InvalidStep {l : PySem.W.OpenLaw} {w : World} {K : PySem.W.Frag} {h : Heap} {mg : Str → Option Value} {base : Heap}
    {ai_WayError : Addr} {ai_InvalidStep : Addr} {C_WayError : Addr} {C_InvalidStep : Addr}
    (X : K.In h) (G : h.Ns mainGlobals mg)
    (h_InvalidStep : PySem.W.nsIn K mainGlobals "InvalidStep" = some (some (.ref C_InvalidStep)))
    (FN_WayError : ZX.SupFn l.prog K ai_WayError C_WayError "WayError.__init__" (defArgs s_WayError___init__) (defBody s_WayError___init__) (defScope s_WayError___init__))
    (FN_InvalidStep : ZX.SupFn l.prog K ai_InvalidStep C_InvalidStep "InvalidStep.__init__" (defArgs s_InvalidStep___init__) (defBody s_InvalidStep___init__) (defScope s_InvalidStep___init__))
    (xb_InvalidStep : xh2B K C_InvalidStep C_WayError ai_InvalidStep ai_WayError [.type "ValueError", .type "Exception", .type "BaseException", .type "object"] "ValueError" "ValueError.__new__" "ValueError.__init__" (.ref ai_WayError) ["tag", "value"] = true)
    (b_super : PySem.W.nsIn K mainGlobals "super" = some none)
    (tp_any : PySem.W.nsIn K cStatics "thirdparty.any" = some none)
    (top_super : (l.prog.main.scope.names.lookup ("super" : Str)).isSome = false)
    : XMk l.prog w K mg base "InvalidStep" C_InvalidStep 2 "InvalidStep" ["value"] := by
  have SMk : L2.Mod K mg base → ZX.SupM l.prog K mg base := fun M => ⟨M, PySem.W.mg_none_of X G b_super, top_super, tp_any⟩
  obtain ⟨kc_InvalidStep, xi_InvalidStep, xo_InvalidStep, xk_InvalidStep, xs_InvalidStep, xD_InvalidStep, xI_InvalidStep, xt_InvalidStep, xB_InvalidStep, xR_InvalidStep, xT_InvalidStep, xm_InvalidStep_InvalidStep, xu_InvalidStep_InvalidStep, xm_InvalidStep_WayError, xu_InvalidStep_WayError, xg_WayError, xh_WayError, _, _⟩ := xh2_ok xb_InvalidStep
  have xa_InvalidStep_tag : PySem.W.findIn K (.ref C_InvalidStep) "tag" = some none := (xh2_ok xb_InvalidStep).at_ (by decide +kernel)
  have xa_InvalidStep_value : PySem.W.findIn K (.ref C_InvalidStep) "value" = some none := (xh2_ok xb_InvalidStep).at_ (by decide +kernel)
  have TX_InvalidStep : ZX.ExC K C_InvalidStep [.type "ValueError", .type "Exception", .type "BaseException", .type "object"] "ValueError.__new__" := ⟨xi_InvalidStep, xo_InvalidStep, xk_InvalidStep, xs_InvalidStep⟩
  refine ⟨PySem.W.mg_of X G h_InvalidStep, kc_InvalidStep, fun M => ⟨"ValueError", "ValueError.__new__", "ValueError.__init__", _, ai_InvalidStep, PySem.F.excBase_ValueError, xi_InvalidStep, xI_InvalidStep, xt_InvalidStep, ?_⟩, xB_InvalidStep, xT_InvalidStep⟩
  have F2 : ZX.InitOk l.prog w base 1 ai_WayError C_InvalidStep ZX.G1 := ZX.initBase PySem.W.kxs_ValueError PySem.F.excBase_ValueError PySem.F.store_ValueError (SMk M) FN_WayError ss_WayError TX_InvalidStep xD_InvalidStep po_WayError xm_InvalidStep_WayError xu_InvalidStep_WayError xR_InvalidStep xa_InvalidStep_tag rfl (fun env => ⟨rfl, rfl, ⟨_, rfl⟩⟩) (fun env => rfl) (r0 := (fun v => v "tag")) (r1 := (fun v => v "tag")) (fun env vof h => ZX.Rd1.par (by show env.scope.names.lookup _ = _; rw [h]; rfl) rfl) (fun env vof h => ZX.Rd1.par (by show env.scope.names.lookup _ = _; rw [h]; rfl) rfl) (fun v1 v2 h => h "tag" (by simp))
  have F1 := ZX.initOwn (l := (["value"] : List Str).map fun p => (p, p)) F2 PySem.F.store_ValueError (SMk M) FN_InvalidStep ss_InvalidStep TX_InvalidStep xD_InvalidStep po_InvalidStep xm_InvalidStep_InvalidStep xu_InvalidStep_InvalidStep xg_WayError xh_WayError rfl (fun env => ⟨rfl, rfl, ⟨_, rfl⟩⟩) (r0 := fun _ => V.str "InvalidStep") (fun env vof h => ZX.Rd1.txt) (fun v1 v2 h => rfl) (fun env h => .cons rfl (by show env.scope.names.lookup _ = _; rw [h]; rfl) rfl (.nil)) (fun fp hm => by
    simp only [List.map_cons, List.map_nil, List.mem_cons, List.not_mem_nil, or_false] at hm
    subst hm; exact ⟨xa_InvalidStep_value, by simp⟩) (by simp) (fun vs fs h => by unfold ZX.G1 at h; split at h <;> cases h; simp)
  exact F1.cast (fun vs => ZX.own_eq (by decide) vs)
theorem xm_X_InvalidReader {l : PySem.W.OpenLaw} {w : World} {K : PySem.W.Frag} {h : Heap} {mg : Str → Option Value} {base : Heap}
    {ai_WayError : Addr} {ai_InvalidReader : Addr} {C_WayError : Addr} {C_InvalidReader : Addr}
    (X : K.In h) (G : h.Ns mainGlobals mg)
    (h_InvalidReader : PySem.W.nsIn K mainGlobals "InvalidReader" = some (some (.ref C_InvalidReader)))
    (FN_WayError : ZX.SupFn l.prog K ai_WayError C_WayError "WayError.__init__" (defArgs s_WayError___init__) (defBody s_WayError___init__) (defScope s_WayError___init__))
    (FN_InvalidReader : ZX.SupFn l.prog K ai_InvalidReader C_InvalidReader "InvalidReader.__init__" (defArgs s_InvalidReader___init__) (defBody s_InvalidReader___init__) (defScope s_InvalidReader___init__))
    (xb_InvalidReader : xh2B K C_InvalidReader C_WayError ai_InvalidReader ai_WayError [.type "ValueError", .type "Exception", .type "BaseException", .type "object"] "ValueError" "ValueError.__new__" "ValueError.__init__" (.ref ai_WayError) ["tag", "place"] = true)
    (b_super : PySem.W.nsIn K mainGlobals "super" = some none)
    (tp_any : PySem.W.nsIn K cStatics "thirdparty.any" = some none)
    (top_super : (l.prog.main.scope.names.lookup ("super" : Str)).isSome = false)
    : XMk l.prog w K mg base "InvalidReader" C_InvalidReader 2 "InvalidReader" ["place"] := by
  have SMk : L2.Mod K mg base → ZX.SupM l.prog K mg base := fun M => ⟨M, PySem.W.mg_none_of X G b_super, top_super, tp_any⟩
  obtain ⟨kc_InvalidReader, xi_InvalidReader, xo_InvalidReader, xk_InvalidReader, xs_InvalidReader, xD_InvalidReader, xI_InvalidReader, xt_InvalidReader, xB_InvalidReader, xR_InvalidReader, xT_InvalidReader, xm_InvalidReader_InvalidReader, xu_InvalidReader_InvalidReader, xm_InvalidReader_WayError, xu_InvalidReader_WayError, xg_WayError, xh_WayError, _, _⟩ := xh2_ok xb_InvalidReader
  have xa_InvalidReader_tag : PySem.W.findIn K (.ref C_InvalidReader) "tag" = some none := (xh2_ok xb_InvalidReader).at_ (by decide +kernel)
  have xa_InvalidReader_place : PySem.W.findIn K (.ref C_InvalidReader) "place" = some none := (xh2_ok xb_InvalidReader).at_ (by decide +kernel)
  have TX_InvalidReader : ZX.ExC K C_InvalidReader [.type "ValueError", .type "Exception", .type "BaseException", .type "object"] "ValueError.__new__" := ⟨xi_InvalidReader, xo_InvalidReader, xk_InvalidReader, xs_InvalidReader⟩
  refine ⟨PySem.W.mg_of X G h_InvalidReader, kc_InvalidReader, fun M => ⟨"ValueError", "ValueError.__new__", "ValueError.__init__", _, ai_InvalidReader, PySem.F.excBase_ValueError, xi_InvalidReader, xI_InvalidReader, xt_InvalidReader, ?_⟩, xB_InvalidReader, xT_InvalidReader⟩
  have F2 : ZX.InitOk l.prog w base 1 ai_WayError C_InvalidReader ZX.G1 := ZX.initBase PySem.W.kxs_ValueError PySem.F.excBase_ValueError PySem.F.store_ValueError (SMk M) FN_WayError ss_WayError TX_InvalidReader xD_InvalidReader po_WayError xm_InvalidReader_WayError xu_InvalidReader_WayError xR_InvalidReader xa_InvalidReader_tag rfl (fun env => ⟨rfl, rfl, ⟨_, rfl⟩⟩) (fun env => rfl) (r0 := (fun v => v "tag")) (r1 := (fun v => v "tag")) (fun env vof h => ZX.Rd1.par (by show env.scope.names.lookup _ = _; rw [h]; rfl) rfl) (fun env vof h => ZX.Rd1.par (by show env.scope.names.lookup _ = _; rw [h]; rfl) rfl) (fun v1 v2 h => h "tag" (by simp))
  have F1 := ZX.initOwn (l := (["place"] : List Str).map fun p => (p, p)) F2 PySem.F.store_ValueError (SMk M) FN_InvalidReader ss_InvalidReader TX_InvalidReader xD_InvalidReader po_InvalidReader xm_InvalidReader_InvalidReader xu_InvalidReader_InvalidReader xg_WayError xh_WayError rfl (fun env => ⟨rfl, rfl, ⟨_, rfl⟩⟩) (r0 := fun _ => V.str "InvalidReader") (fun env vof h => ZX.Rd1.txt) (fun v1 v2 h => rfl) (fun env h => .cons rfl (by show env.scope.names.lookup _ = _; rw [h]; rfl) rfl (.nil)) (fun fp hm => by
    simp only [List.map_cons, List.map_nil, List.mem_cons, List.not_mem_nil, or_false] at hm
    subst hm; exact ⟨xa_InvalidReader_place, by simp⟩) (by simp) (fun vs fs h => by unfold ZX.G1 at h; split at h <;> cases h; simp)
  exact F1.cast (fun vs => ZX.own_eq (by decide) vs)
theorem xm_XK_InvalidReader_0 {l : PySem.W.OpenLaw} {w : World} {K : PySem.W.Frag} {h : Heap} {mg : Str → Option Value} {base : Heap}
    {ai_WayError : Addr} {ai_InvalidReader : Addr} {C_WayError : Addr} {C_InvalidReader : Addr}
    (X : K.In h) (G : h.Ns mainGlobals mg) (X_InvalidReader : XMk l.prog w K mg base "InvalidReader" C_InvalidReader 2 "InvalidReader" ["place"])
    (FN_WayError : ZX.SupFn l.prog K ai_WayError C_WayError "WayError.__init__" (defArgs s_WayError___init__) (defBody s_WayError___init__) (defScope s_WayError___init__))
    (FN_InvalidReader : ZX.SupFn l.prog K ai_InvalidReader C_InvalidReader "InvalidReader.__init__" (defArgs s_InvalidReader___init__) (defBody s_InvalidReader___init__) (defScope s_InvalidReader___init__))
    (xb_InvalidReader : xh2B K C_InvalidReader C_WayError ai_InvalidReader ai_WayError [.type "ValueError", .type "Exception", .type "BaseException", .type "object"] "ValueError" "ValueError.__new__" "ValueError.__init__" (.ref ai_WayError) ["tag", "place"] = true)
    (b_super : PySem.W.nsIn K mainGlobals "super" = some none)
    (tp_any : PySem.W.nsIn K cStatics "thirdparty.any" = some none)
    (top_super : (l.prog.main.scope.names.lookup ("super" : Str)).isSome = false)
    : XMkK l.prog w K mg base "InvalidReader" C_InvalidReader 2 "InvalidReader" ["place"] ["place"] [0] [0] := by
  have SMk : L2.Mod K mg base → ZX.SupM l.prog K mg base := fun M => ⟨M, PySem.W.mg_none_of X G b_super, top_super, tp_any⟩
  obtain ⟨kc_InvalidReader, xi_InvalidReader, xo_InvalidReader, xk_InvalidReader, xs_InvalidReader, xD_InvalidReader, xI_InvalidReader, xt_InvalidReader, xB_InvalidReader, xR_InvalidReader, xT_InvalidReader, xm_InvalidReader_InvalidReader, xu_InvalidReader_InvalidReader, xm_InvalidReader_WayError, xu_InvalidReader_WayError, xg_WayError, xh_WayError, _, _⟩ := xh2_ok xb_InvalidReader
  have xa_InvalidReader_tag : PySem.W.findIn K (.ref C_InvalidReader) "tag" = some none := (xh2_ok xb_InvalidReader).at_ (by decide +kernel)
  have xa_InvalidReader_place : PySem.W.findIn K (.ref C_InvalidReader) "place" = some none := (xh2_ok xb_InvalidReader).at_ (by decide +kernel)
  have TX_InvalidReader : ZX.ExC K C_InvalidReader [.type "ValueError", .type "Exception", .type "BaseException", .type "object"] "ValueError.__new__" := ⟨xi_InvalidReader, xo_InvalidReader, xk_InvalidReader, xs_InvalidReader⟩
  refine ⟨X_InvalidReader, fun M => ⟨"ValueError", "ValueError.__new__", "ValueError.__init__", _, ai_InvalidReader, PySem.F.excBase_ValueError, xi_InvalidReader, xI_InvalidReader, xt_InvalidReader, ?_⟩, fun ws h => match ws, h with | [_], _ => rfl, fun ws h => match ws, h with | [_], _ => rfl⟩
  have F2 : ZX.InitOk l.prog w base 1 ai_WayError C_InvalidReader ZX.G1 := ZX.initBase PySem.W.kxs_ValueError PySem.F.excBase_ValueError PySem.F.store_ValueError (SMk M) FN_WayError ss_WayError TX_InvalidReader xD_InvalidReader po_WayError xm_InvalidReader_WayError xu_InvalidReader_WayError xR_InvalidReader xa_InvalidReader_tag rfl (fun env => ⟨rfl, rfl, ⟨_, rfl⟩⟩) (fun env => rfl) (r0 := (fun v => v "tag")) (r1 := (fun v => v "tag")) (fun env vof h => ZX.Rd1.par (by show env.scope.names.lookup _ = _; rw [h]; rfl) rfl) (fun env vof h => ZX.Rd1.par (by show env.scope.names.lookup _ = _; rw [h]; rfl) rfl) (fun v1 v2 h => h "tag" (by simp))
  have F1 := ZX.initOwnA (mk := fun us => ⟨us.take 1, (["place"] : List Str).zip (pickL [0] (us.drop 1))⟩) (fun fd us h hd hl => by
    obtain ⟨⟩ := fd
    cases h
    cases hd
    exact match us, hl with | [_, _], _ => rfl) (l := (["place"] : List Str).map fun p => (p, p)) F2 PySem.F.store_ValueError (SMk M) FN_InvalidReader ss_InvalidReader TX_InvalidReader xD_InvalidReader po_InvalidReader xm_InvalidReader_InvalidReader xu_InvalidReader_InvalidReader xg_WayError xh_WayError rfl (fun env => ⟨rfl, rfl, ⟨_, rfl⟩⟩) (r0 := fun _ => V.str "InvalidReader") (fun env vof h => ZX.Rd1.txt) (fun v1 v2 h => rfl) (fun env h => .cons rfl (by show env.scope.names.lookup _ = _; rw [h]; rfl) rfl (.nil)) (fun fp hm => by
    simp only [List.map_cons, List.map_nil, List.mem_cons, List.not_mem_nil, or_false] at hm
    subst hm; exact ⟨xa_InvalidReader_place, by simp⟩) (by simp) (fun vs fs h => by unfold ZX.G1 at h; split at h <;> cases h; simp)
  exact F1.cast (fun vs => ZX.own_eq (by decide) vs)
theorem xm_X_WorldsDiffer {l : PySem.W.OpenLaw} {w : World} {K : PySem.W.Frag} {h : Heap} {mg : Str → Option Value} {base : Heap}
    {ai_WayError : Addr} {ai_WorldsDiffer : Addr} {C_WayError : Addr} {C_WorldsDiffer : Addr}
    (X : K.In h) (G : h.Ns mainGlobals mg)
    (h_WorldsDiffer : PySem.W.nsIn K mainGlobals "WorldsDiffer" = some (some (.ref C_WorldsDiffer)))
    (FN_WayError : ZX.SupFn l.prog K ai_WayError C_WayError "WayError.__init__" (defArgs s_WayError___init__) (defBody s_WayError___init__) (defScope s_WayError___init__))
    (FN_WorldsDiffer : ZX.SupFn l.prog K ai_WorldsDiffer C_WorldsDiffer "WorldsDiffer.__init__" (defArgs s_WorldsDiffer___init__) (defBody s_WorldsDiffer___init__) (defScope s_WorldsDiffer___init__))
    (xb_WorldsDiffer : xh2B K C_WorldsDiffer C_WayError ai_WorldsDiffer ai_WayError [.type "ValueError", .type "Exception", .type "BaseException", .type "object"] "ValueError" "ValueError.__new__" "ValueError.__init__" (.ref ai_WayError) ["tag"] = true)
    (b_super : PySem.W.nsIn K mainGlobals "super" = some none)
    (tp_any : PySem.W.nsIn K cStatics "thirdparty.any" = some none)
    (top_super : (l.prog.main.scope.names.lookup ("super" : Str)).isSome = false)
    : XMk l.prog w K mg base "WorldsDiffer" C_WorldsDiffer 2 "WorldsDiffer" [] := by
  have SMk : L2.Mod K mg base → ZX.SupM l.prog K mg base := fun M => ⟨M, PySem.W.mg_none_of X G b_super, top_super, tp_any⟩
  obtain ⟨kc_WorldsDiffer, xi_WorldsDiffer, xo_WorldsDiffer, xk_WorldsDiffer, xs_WorldsDiffer, xD_WorldsDiffer, xI_WorldsDiffer, xt_WorldsDiffer, xB_WorldsDiffer, xR_WorldsDiffer, xT_WorldsDiffer, xm_WorldsDiffer_WorldsDiffer, xu_WorldsDiffer_WorldsDiffer, xm_WorldsDiffer_WayError, xu_WorldsDiffer_WayError, xg_WayError, xh_WayError, _, _⟩ := xh2_ok xb_WorldsDiffer
  have xa_WorldsDiffer_tag : PySem.W.findIn K (.ref C_WorldsDiffer) "tag" = some none := (xh2_ok xb_WorldsDiffer).at_ (by decide +kernel)
  have TX_WorldsDiffer : ZX.ExC K C_WorldsDiffer [.type "ValueError", .type "Exception", .type "BaseException", .type "object"] "ValueError.__new__" := ⟨xi_WorldsDiffer, xo_WorldsDiffer, xk_WorldsDiffer, xs_WorldsDiffer⟩
  refine ⟨PySem.W.mg_of X G h_WorldsDiffer, kc_WorldsDiffer, fun M => ⟨"ValueError", "ValueError.__new__", "ValueError.__init__", _, ai_WorldsDiffer, PySem.F.excBase_ValueError, xi_WorldsDiffer, xI_WorldsDiffer, xt_WorldsDiffer, ?_⟩, xB_WorldsDiffer, xT_WorldsDiffer⟩
  have F2 : ZX.InitOk l.prog w base 1 ai_WayError C_WorldsDiffer ZX.G1 := ZX.initBase PySem.W.kxs_ValueError PySem.F.excBase_ValueError PySem.F.store_ValueError (SMk M) FN_WayError ss_WayError TX_WorldsDiffer xD_WorldsDiffer po_WayError xm_WorldsDiffer_WayError xu_WorldsDiffer_WayError xR_WorldsDiffer xa_WorldsDiffer_tag rfl (fun env => ⟨rfl, rfl, ⟨_, rfl⟩⟩) (fun env => rfl) (r0 := (fun v => v "tag")) (r1 := (fun v => v "tag")) (fun env vof h => ZX.Rd1.par (by show env.scope.names.lookup _ = _; rw [h]; rfl) rfl) (fun env vof h => ZX.Rd1.par (by show env.scope.names.lookup _ = _; rw [h]; rfl) rfl) (fun v1 v2 h => h "tag" (by simp))
  have F1 := ZX.initOwn (l := ([] : List Str).map fun p => (p, p)) F2 PySem.F.store_ValueError (SMk M) FN_WorldsDiffer ss_WorldsDiffer TX_WorldsDiffer xD_WorldsDiffer po_WorldsDiffer xm_WorldsDiffer_WorldsDiffer xu_WorldsDiffer_WorldsDiffer xg_WayError xh_WayError rfl (fun env => ⟨rfl, rfl, ⟨_, rfl⟩⟩) (r0 := fun _ => V.str "WorldsDiffer") (fun env vof h => ZX.Rd1.txt) (fun v1 v2 h => rfl) (fun env h => .nil) (fun fp hm => by simp at hm) (by simp) (fun vs fs h => by unfold ZX.G1 at h; split at h <;> cases h; simp)
  exact F1.cast (fun vs => ZX.own_eq (by decide) vs)
theorem xm_X_TooMany {l : PySem.W.OpenLaw} {w : World} {K : PySem.W.Frag} {h : Heap} {mg : Str → Option Value} {base : Heap}
    {ai_WayError : Addr} {ai_TooMany : Addr} {C_WayError : Addr} {C_TooMany : Addr}
    (X : K.In h) (G : h.Ns mainGlobals mg)
    (h_TooMany : PySem.W.nsIn K mainGlobals "TooMany" = some (some (.ref C_TooMany)))
    (FN_WayError : ZX.SupFn l.prog K ai_WayError C_WayError "WayError.__init__" (defArgs s_WayError___init__) (defBody s_WayError___init__) (defScope s_WayError___init__))
    (FN_TooMany : ZX.SupFn l.prog K ai_TooMany C_TooMany "TooMany.__init__" (defArgs s_TooMany___init__) (defBody s_TooMany___init__) (defScope s_TooMany___init__))
    (xb_TooMany : xh2B K C_TooMany C_WayError ai_TooMany ai_WayError [.type "ValueError", .type "Exception", .type "BaseException", .type "object"] "ValueError" "ValueError.__new__" "ValueError.__init__" (.ref ai_WayError) ["tag", "limit"] = true)
    (b_super : PySem.W.nsIn K mainGlobals "super" = some none)
    (tp_any : PySem.W.nsIn K cStatics "thirdparty.any" = some none)
    (top_super : (l.prog.main.scope.names.lookup ("super" : Str)).isSome = false)
    : XMk l.prog w K mg base "TooMany" C_TooMany 2 "TooMany" ["limit"] := by
  have SMk : L2.Mod K mg base → ZX.SupM l.prog K mg base := fun M => ⟨M, PySem.W.mg_none_of X G b_super, top_super, tp_any⟩
  obtain ⟨kc_TooMany, xi_TooMany, xo_TooMany, xk_TooMany, xs_TooMany, xD_TooMany, xI_TooMany, xt_TooMany, xB_TooMany, xR_TooMany, xT_TooMany, xm_TooMany_TooMany, xu_TooMany_TooMany, xm_TooMany_WayError, xu_TooMany_WayError, xg_WayError, xh_WayError, _, _⟩ := xh2_ok xb_TooMany
  have xa_TooMany_tag : PySem.W.findIn K (.ref C_TooMany) "tag" = some none := (xh2_ok xb_TooMany).at_ (by decide +kernel)
  have xa_TooMany_limit : PySem.W.findIn K (.ref C_TooMany) "limit" = some none := (xh2_ok xb_TooMany).at_ (by decide +kernel)
  have TX_TooMany : ZX.ExC K C_TooMany [.type "ValueError", .type "Exception", .type "BaseException", .type "object"] "ValueError.__new__" := ⟨xi_TooMany, xo_TooMany, xk_TooMany, xs_TooMany⟩
  refine ⟨PySem.W.mg_of X G h_TooMany, kc_TooMany, fun M => ⟨"ValueError", "ValueError.__new__", "ValueError.__init__", _, ai_TooMany, PySem.F.excBase_ValueError, xi_TooMany, xI_TooMany, xt_TooMany, ?_⟩, xB_TooMany, xT_TooMany⟩
  have F2 : ZX.InitOk l.prog w base 1 ai_WayError C_TooMany ZX.G1 := ZX.initBase PySem.W.kxs_ValueError PySem.F.excBase_ValueError PySem.F.store_ValueError (SMk M) FN_WayError ss_WayError TX_TooMany xD_TooMany po_WayError xm_TooMany_WayError xu_TooMany_WayError xR_TooMany xa_TooMany_tag rfl (fun env => ⟨rfl, rfl, ⟨_, rfl⟩⟩) (fun env => rfl) (r0 := (fun v => v "tag")) (r1 := (fun v => v "tag")) (fun env vof h => ZX.Rd1.par (by show env.scope.names.lookup _ = _; rw [h]; rfl) rfl) (fun env vof h => ZX.Rd1.par (by show env.scope.names.lookup _ = _; rw [h]; rfl) rfl) (fun v1 v2 h => h "tag" (by simp))
  have F1 := ZX.initOwn (l := (["limit"] : List Str).map fun p => (p, p)) F2 PySem.F.store_ValueError (SMk M) FN_TooMany ss_TooMany TX_TooMany xD_TooMany po_TooMany xm_TooMany_TooMany xu_TooMany_TooMany xg_WayError xh_WayError rfl (fun env => ⟨rfl, rfl, ⟨_, rfl⟩⟩) (r0 := fun _ => V.str "TooMany") (fun env vof h => ZX.Rd1.txt) (fun v1 v2 h => rfl) (fun env h => .cons rfl (by show env.scope.names.lookup _ = _; rw [h]; rfl) rfl (.nil)) (fun fp hm => by
    simp only [List.map_cons, List.map_nil, List.mem_cons, List.not_mem_nil, or_false] at hm
    subst hm; exact ⟨xa_TooMany_limit, by simp⟩) (by simp) (fun vs fs h => by unfold ZX.G1 at h; split at h <;> cases h; simp)
  exact F1.cast (fun vs => ZX.own_eq (by decide) vs)
theorem xm_XK_TooMany_0 {l : PySem.W.OpenLaw} {w : World} {K : PySem.W.Frag} {h : Heap} {mg : Str → Option Value} {base : Heap}
    {ai_WayError : Addr} {ai_TooMany : Addr} {C_WayError : Addr} {C_TooMany : Addr}
    (X : K.In h) (G : h.Ns mainGlobals mg) (X_TooMany : XMk l.prog w K mg base "TooMany" C_TooMany 2 "TooMany" ["limit"])
    (FN_WayError : ZX.SupFn l.prog K ai_WayError C_WayError "WayError.__init__" (defArgs s_WayError___init__) (defBody s_WayError___init__) (defScope s_WayError___init__))
    (FN_TooMany : ZX.SupFn l.prog K ai_TooMany C_TooMany "TooMany.__init__" (defArgs s_TooMany___init__) (defBody s_TooMany___init__) (defScope s_TooMany___init__))
    (xb_TooMany : xh2B K C_TooMany C_WayError ai_TooMany ai_WayError [.type "ValueError", .type "Exception", .type "BaseException", .type "object"] "ValueError" "ValueError.__new__" "ValueError.__init__" (.ref ai_WayError) ["tag", "limit"] = true)
    (b_super : PySem.W.nsIn K mainGlobals "super" = some none)
    (tp_any : PySem.W.nsIn K cStatics "thirdparty.any" = some none)
    (top_super : (l.prog.main.scope.names.lookup ("super" : Str)).isSome = false)
    : XMkK l.prog w K mg base "TooMany" C_TooMany 2 "TooMany" ["limit"] ["limit"] [0] [0] := by
  have SMk : L2.Mod K mg base → ZX.SupM l.prog K mg base := fun M => ⟨M, PySem.W.mg_none_of X G b_super, top_super, tp_any⟩
  obtain ⟨kc_TooMany, xi_TooMany, xo_TooMany, xk_TooMany, xs_TooMany, xD_TooMany, xI_TooMany, xt_TooMany, xB_TooMany, xR_TooMany, xT_TooMany, xm_TooMany_TooMany, xu_TooMany_TooMany, xm_TooMany_WayError, xu_TooMany_WayError, xg_WayError, xh_WayError, _, _⟩ := xh2_ok xb_TooMany
  have xa_TooMany_tag : PySem.W.findIn K (.ref C_TooMany) "tag" = some none := (xh2_ok xb_TooMany).at_ (by decide +kernel)
  have xa_TooMany_limit : PySem.W.findIn K (.ref C_TooMany) "limit" = some none := (xh2_ok xb_TooMany).at_ (by decide +kernel)
  have TX_TooMany : ZX.ExC K C_TooMany [.type "ValueError", .type "Exception", .type "BaseException", .type "object"] "ValueError.__new__" := ⟨xi_TooMany, xo_TooMany, xk_TooMany, xs_TooMany⟩
  refine ⟨X_TooMany, fun M => ⟨"ValueError", "ValueError.__new__", "ValueError.__init__", _, ai_TooMany, PySem.F.excBase_ValueError, xi_TooMany, xI_TooMany, xt_TooMany, ?_⟩, fun ws h => match ws, h with | [_], _ => rfl, fun ws h => match ws, h with | [_], _ => rfl⟩
  have F2 : ZX.InitOk l.prog w base 1 ai_WayError C_TooMany ZX.G1 := ZX.initBase PySem.W.kxs_ValueError PySem.F.excBase_ValueError PySem.F.store_ValueError (SMk M) FN_WayError ss_WayError TX_TooMany xD_TooMany po_WayError xm_TooMany_WayError xu_TooMany_WayError xR_TooMany xa_TooMany_tag rfl (fun env => ⟨rfl, rfl, ⟨_, rfl⟩⟩) (fun env => rfl) (r0 := (fun v => v "tag")) (r1 := (fun v => v "tag")) (fun env vof h => ZX.Rd1.par (by show env.scope.names.lookup _ = _; rw [h]; rfl) rfl) (fun env vof h => ZX.Rd1.par (by show env.scope.names.lookup _ = _; rw [h]; rfl) rfl) (fun v1 v2 h => h "tag" (by simp))
  have F1 := ZX.initOwnA (mk := fun us => ⟨us.take 1, (["limit"] : List Str).zip (pickL [0] (us.drop 1))⟩) (fun fd us h hd hl => by
    obtain ⟨⟩ := fd
    cases h
    cases hd
    exact match us, hl with | [_, _], _ => rfl) (l := (["limit"] : List Str).map fun p => (p, p)) F2 PySem.F.store_ValueError (SMk M) FN_TooMany ss_TooMany TX_TooMany xD_TooMany po_TooMany xm_TooMany_TooMany xu_TooMany_TooMany xg_WayError xh_WayError rfl (fun env => ⟨rfl, rfl, ⟨_, rfl⟩⟩) (r0 := fun _ => V.str "TooMany") (fun env vof h => ZX.Rd1.txt) (fun v1 v2 h => rfl) (fun env h => .cons rfl (by show env.scope.names.lookup _ = _; rw [h]; rfl) rfl (.nil)) (fun fp hm => by
    simp only [List.map_cons, List.map_nil, List.mem_cons, List.not_mem_nil, or_false] at hm
    subst hm; exact ⟨xa_TooMany_limit, by simp⟩) (by simp) (fun vs fs h => by unfold ZX.G1 at h; split at h <;> cases h; simp)
  exact F1.cast (fun vs => ZX.own_eq (by decide) vs)
theorem xm_X_InvalidName {l : PySem.W.OpenLaw} {w : World} {K : PySem.W.Frag} {h : Heap} {mg : Str → Option Value} {base : Heap}
    {ai_WayError : Addr} {ai_InvalidName : Addr} {C_WayError : Addr} {C_InvalidName : Addr}
    (X : K.In h) (G : h.Ns mainGlobals mg)
    (h_InvalidName : PySem.W.nsIn K mainGlobals "InvalidName" = some (some (.ref C_InvalidName)))
    (FN_WayError : ZX.SupFn l.prog K ai_WayError C_WayError "WayError.__init__" (defArgs s_WayError___init__) (defBody s_WayError___init__) (defScope s_WayError___init__))
    (FN_InvalidName : ZX.SupFn l.prog K ai_InvalidName C_InvalidName "InvalidName.__init__" (defArgs s_InvalidName___init__) (defBody s_InvalidName___init__) (defScope s_InvalidName___init__))
    (xb_InvalidName : xh2B K C_InvalidName C_WayError ai_InvalidName ai_WayError [.type "ValueError", .type "Exception", .type "BaseException", .type "object"] "ValueError" "ValueError.__new__" "ValueError.__init__" (.ref ai_WayError) ["tag", "name"] = true)
    (b_super : PySem.W.nsIn K mainGlobals "super" = some none)
    (tp_any : PySem.W.nsIn K cStatics "thirdparty.any" = some none)
    (top_super : (l.prog.main.scope.names.lookup ("super" : Str)).isSome = false)
    : XMk l.prog w K mg base "InvalidName" C_InvalidName 2 "InvalidName" ["name"] := by
  have SMk : L2.Mod K mg base → ZX.SupM l.prog K mg base := fun M => ⟨M, PySem.W.mg_none_of X G b_super, top_super, tp_any⟩
  obtain ⟨kc_InvalidName, xi_InvalidName, xo_InvalidName, xk_InvalidName, xs_InvalidName, xD_InvalidName, xI_InvalidName, xt_InvalidName, xB_InvalidName, xR_InvalidName, xT_InvalidName, xm_InvalidName_InvalidName, xu_InvalidName_InvalidName, xm_InvalidName_WayError, xu_InvalidName_WayError, xg_WayError, xh_WayError, _, _⟩ := xh2_ok xb_InvalidName
  have xa_InvalidName_tag : PySem.W.findIn K (.ref C_InvalidName) "tag" = some none := (xh2_ok xb_InvalidName).at_ (by decide +kernel)
  have xa_InvalidName_name : PySem.W.findIn K (.ref C_InvalidName) "name" = some none := (xh2_ok xb_InvalidName).at_ (by decide +kernel)
  have TX_InvalidName : ZX.ExC K C_InvalidName [.type "ValueError", .type "Exception", .type "BaseException", .type "object"] "ValueError.__new__" := ⟨xi_InvalidName, xo_InvalidName, xk_InvalidName, xs_InvalidName⟩
  refine ⟨PySem.W.mg_of X G h_InvalidName, kc_InvalidName, fun M => ⟨"ValueError", "ValueError.__new__", "ValueError.__init__", _, ai_InvalidName, PySem.F.excBase_ValueError, xi_InvalidName, xI_InvalidName, xt_InvalidName, ?_⟩, xB_InvalidName, xT_InvalidName⟩
  have F2 : ZX.InitOk l.prog w base 1 ai_WayError C_InvalidName ZX.G1 := ZX.initBase PySem.W.kxs_ValueError PySem.F.excBase_ValueError PySem.F.store_ValueError (SMk M) FN_WayError ss_WayError TX_InvalidName xD_InvalidName po_WayError xm_InvalidName_WayError xu_InvalidName_WayError xR_InvalidName xa_InvalidName_tag rfl (fun env => ⟨rfl, rfl, ⟨_, rfl⟩⟩) (fun env => rfl) (r0 := (fun v => v "tag")) (r1 := (fun v => v "tag")) (fun env vof h => ZX.Rd1.par (by show env.scope.names.lookup _ = _; rw [h]; rfl) rfl) (fun env vof h => ZX.Rd1.par (by show env.scope.names.lookup _ = _; rw [h]; rfl) rfl) (fun v1 v2 h => h "tag" (by simp))
  have F1 := ZX.initOwn (l := (["name"] : List Str).map fun p => (p, p)) F2 PySem.F.store_ValueError (SMk M) FN_InvalidName ss_InvalidName TX_InvalidName xD_InvalidName po_InvalidName xm_InvalidName_InvalidName xu_InvalidName_InvalidName xg_WayError xh_WayError rfl (fun env => ⟨rfl, rfl, ⟨_, rfl⟩⟩) (r0 := fun _ => V.str "InvalidName") (fun env vof h => ZX.Rd1.txt) (fun v1 v2 h => rfl) (fun env h => .cons rfl (by show env.scope.names.lookup _ = _; rw [h]; rfl) rfl (.nil)) (fun fp hm => by
    simp only [List.map_cons, List.map_nil, List.mem_cons, List.not_mem_nil, or_false] at hm
    subst hm; exact ⟨xa_InvalidName_name, by simp⟩) (by simp) (fun vs fs h => by unfold ZX.G1 at h; split at h <;> cases h; simp)
  exact F1.cast (fun vs => ZX.own_eq (by decide) vs)
theorem xm_X_WrongKind {l : PySem.W.OpenLaw} {w : World} {K : PySem.W.Frag} {h : Heap} {mg : Str → Option Value} {base : Heap}
    {ai_WayError : Addr} {ai_WrongKind : Addr} {C_WayError : Addr} {C_WrongKind : Addr}
    (X : K.In h) (G : h.Ns mainGlobals mg)
    (h_WrongKind : PySem.W.nsIn K mainGlobals "WrongKind" = some (some (.ref C_WrongKind)))
    (FN_WayError : ZX.SupFn l.prog K ai_WayError C_WayError "WayError.__init__" (defArgs s_WayError___init__) (defBody s_WayError___init__) (defScope s_WayError___init__))
    (FN_WrongKind : ZX.SupFn l.prog K ai_WrongKind C_WrongKind "WrongKind.__init__" (defArgs s_WrongKind___init__) (defBody s_WrongKind___init__) (defScope s_WrongKind___init__))
    (xb_WrongKind : xh2B K C_WrongKind C_WayError ai_WrongKind ai_WayError [.type "ValueError", .type "Exception", .type "BaseException", .type "object"] "ValueError" "ValueError.__new__" "ValueError.__init__" (.ref ai_WayError) ["tag", "name"] = true)
    (b_super : PySem.W.nsIn K mainGlobals "super" = some none)
    (tp_any : PySem.W.nsIn K cStatics "thirdparty.any" = some none)
    (top_super : (l.prog.main.scope.names.lookup ("super" : Str)).isSome = false)
    : XMk l.prog w K mg base "WrongKind" C_WrongKind 2 "WrongKind" ["name"] := by
  have SMk : L2.Mod K mg base → ZX.SupM l.prog K mg base := fun M => ⟨M, PySem.W.mg_none_of X G b_super, top_super, tp_any⟩
  obtain ⟨kc_WrongKind, xi_WrongKind, xo_WrongKind, xk_WrongKind, xs_WrongKind, xD_WrongKind, xI_WrongKind, xt_WrongKind, xB_WrongKind, xR_WrongKind, xT_WrongKind, xm_WrongKind_WrongKind, xu_WrongKind_WrongKind, xm_WrongKind_WayError, xu_WrongKind_WayError, xg_WayError, xh_WayError, _, _⟩ := xh2_ok xb_WrongKind
  have xa_WrongKind_tag : PySem.W.findIn K (.ref C_WrongKind) "tag" = some none := (xh2_ok xb_WrongKind).at_ (by decide +kernel)
  have xa_WrongKind_name : PySem.W.findIn K (.ref C_WrongKind) "name" = some none := (xh2_ok xb_WrongKind).at_ (by decide +kernel)
  have TX_WrongKind : ZX.ExC K C_WrongKind [.type "ValueError", .type "Exception", .type "BaseException", .type "object"] "ValueError.__new__" := ⟨xi_WrongKind, xo_WrongKind, xk_WrongKind, xs_WrongKind⟩
  refine ⟨PySem.W.mg_of X G h_WrongKind, kc_WrongKind, fun M => ⟨"ValueError", "ValueError.__new__", "ValueError.__init__", _, ai_WrongKind, PySem.F.excBase_ValueError, xi_WrongKind, xI_WrongKind, xt_WrongKind, ?_⟩, xB_WrongKind, xT_WrongKind⟩
  have F2 : ZX.InitOk l.prog w base 1 ai_WayError C_WrongKind ZX.G1 := ZX.initBase PySem.W.kxs_ValueError PySem.F.excBase_ValueError PySem.F.store_ValueError (SMk M) FN_WayError ss_WayError TX_WrongKind xD_WrongKind po_WayError xm_WrongKind_WayError xu_WrongKind_WayError xR_WrongKind xa_WrongKind_tag rfl (fun env => ⟨rfl, rfl, ⟨_, rfl⟩⟩) (fun env => rfl) (r0 := (fun v => v "tag")) (r1 := (fun v => v "tag")) (fun env vof h => ZX.Rd1.par (by show env.scope.names.lookup _ = _; rw [h]; rfl) rfl) (fun env vof h => ZX.Rd1.par (by show env.scope.names.lookup _ = _; rw [h]; rfl) rfl) (fun v1 v2 h => h "tag" (by simp))
  have F1 := ZX.initOwn (l := (["name"] : List Str).map fun p => (p, p)) F2 PySem.F.store_ValueError (SMk M) FN_WrongKind ss_WrongKind TX_WrongKind xD_WrongKind po_WrongKind xm_WrongKind_WrongKind xu_WrongKind_WrongKind xg_WayError xh_WayError rfl (fun env => ⟨rfl, rfl, ⟨_, rfl⟩⟩) (r0 := fun _ => V.str "WrongKind") (fun env vof h => ZX.Rd1.txt) (fun v1 v2 h => rfl) (fun env h => .cons rfl (by show env.scope.names.lookup _ = _; rw [h]; rfl) rfl (.nil)) (fun fp hm => by
    simp only [List.map_cons, List.map_nil, List.mem_cons, List.not_mem_nil, or_false] at hm
    subst hm; exact ⟨xa_WrongKind_name, by simp⟩) (by simp) (fun vs fs h => by unfold ZX.G1 at h; split at h <;> cases h; simp)
  exact F1.cast (fun vs => ZX.own_eq (by decide) vs)
theorem xm_XK_WrongKind_0 {l : PySem.W.OpenLaw} {w : World} {K : PySem.W.Frag} {h : Heap} {mg : Str → Option Value} {base : Heap}
    {ai_WayError : Addr} {ai_WrongKind : Addr} {C_WayError : Addr} {C_WrongKind : Addr}
    (X : K.In h) (G : h.Ns mainGlobals mg) (X_WrongKind : XMk l.prog w K mg base "WrongKind" C_WrongKind 2 "WrongKind" ["name"])
    (FN_WayError : ZX.SupFn l.prog K ai_WayError C_WayError "WayError.__init__" (defArgs s_WayError___init__) (defBody s_WayError___init__) (defScope s_WayError___init__))
    (FN_WrongKind : ZX.SupFn l.prog K ai_WrongKind C_WrongKind "WrongKind.__init__" (defArgs s_WrongKind___init__) (defBody s_WrongKind___init__) (defScope s_WrongKind___init__))
    (xb_WrongKind : xh2B K C_WrongKind C_WayError ai_WrongKind ai_WayError [.type "ValueError", .type "Exception", .type "BaseException", .type "object"] "ValueError" "ValueError.__new__" "ValueError.__init__" (.ref ai_WayError) ["tag", "name"] = true)
    (b_super : PySem.W.nsIn K mainGlobals "super" = some none)
    (tp_any : PySem.W.nsIn K cStatics "thirdparty.any" = some none)
    (top_super : (l.prog.main.scope.names.lookup ("super" : Str)).isSome = false)
    : XMkK l.prog w K mg base "WrongKind" C_WrongKind 2 "WrongKind" ["name"] ["name"] [0] [0] := by
  have SMk : L2.Mod K mg base → ZX.SupM l.prog K mg base := fun M => ⟨M, PySem.W.mg_none_of X G b_super, top_super, tp_any⟩
  obtain ⟨kc_WrongKind, xi_WrongKind, xo_WrongKind, xk_WrongKind, xs_WrongKind, xD_WrongKind, xI_WrongKind, xt_WrongKind, xB_WrongKind, xR_WrongKind, xT_WrongKind, xm_WrongKind_WrongKind, xu_WrongKind_WrongKind, xm_WrongKind_WayError, xu_WrongKind_WayError, xg_WayError, xh_WayError, _, _⟩ := xh2_ok xb_WrongKind
  have xa_WrongKind_tag : PySem.W.findIn K (.ref C_WrongKind) "tag" = some none := (xh2_ok xb_WrongKind).at_ (by decide +kernel)
  have xa_WrongKind_name : PySem.W.findIn K (.ref C_WrongKind) "name" = some none := (xh2_ok xb_WrongKind).at_ (by decide +kernel)
  have TX_WrongKind : ZX.ExC K C_WrongKind [.type "ValueError", .type "Exception", .type "BaseException", .type "object"] "ValueError.__new__" := ⟨xi_WrongKind, xo_WrongKind, xk_WrongKind, xs_WrongKind⟩
  refine ⟨X_WrongKind, fun M => ⟨"ValueError", "ValueError.__new__", "ValueError.__init__", _, ai_WrongKind, PySem.F.excBase_ValueError, xi_WrongKind, xI_WrongKind, xt_WrongKind, ?_⟩, fun ws h => match ws, h with | [_], _ => rfl, fun ws h => match ws, h with | [_], _ => rfl⟩
  have F2 : ZX.InitOk l.prog w base 1 ai_WayError C_WrongKind ZX.G1 := ZX.initBase PySem.W.kxs_ValueError PySem.F.excBase_ValueError PySem.F.store_ValueError (SMk M) FN_WayError ss_WayError TX_WrongKind xD_WrongKind po_WayError xm_WrongKind_WayError xu_WrongKind_WayError xR_WrongKind xa_WrongKind_tag rfl (fun env => ⟨rfl, rfl, ⟨_, rfl⟩⟩) (fun env => rfl) (r0 := (fun v => v "tag")) (r1 := (fun v => v "tag")) (fun env vof h => ZX.Rd1.par (by show env.scope.names.lookup _ = _; rw [h]; rfl) rfl) (fun env vof h => ZX.Rd1.par (by show env.scope.names.lookup _ = _; rw [h]; rfl) rfl) (fun v1 v2 h => h "tag" (by simp))
  have F1 := ZX.initOwnA (mk := fun us => ⟨us.take 1, (["name"] : List Str).zip (pickL [0] (us.drop 1))⟩) (fun fd us h hd hl => by
    obtain ⟨⟩ := fd
    cases h
    cases hd
    exact match us, hl with | [_, _], _ => rfl) (l := (["name"] : List Str).map fun p => (p, p)) F2 PySem.F.store_ValueError (SMk M) FN_WrongKind ss_WrongKind TX_WrongKind xD_WrongKind po_WrongKind xm_WrongKind_WrongKind xu_WrongKind_WrongKind xg_WayError xh_WayError rfl (fun env => ⟨rfl, rfl, ⟨_, rfl⟩⟩) (r0 := fun _ => V.str "WrongKind") (fun env vof h => ZX.Rd1.txt) (fun v1 v2 h => rfl) (fun env h => .cons rfl (by show env.scope.names.lookup _ = _; rw [h]; rfl) rfl (.nil)) (fun fp hm => by
    simp only [List.map_cons, List.map_nil, List.mem_cons, List.not_mem_nil, or_false] at hm
    subst hm; exact ⟨xa_WrongKind_name, by simp⟩) (by simp) (fun vs fs h => by unfold ZX.G1 at h; split at h <;> cases h; simp)
  exact F1.cast (fun vs => ZX.own_eq (by decide) vs)
theorem xm_X_CircularName {l : PySem.W.OpenLaw} {w : World} {K : PySem.W.Frag} {h : Heap} {mg : Str → Option Value} {base : Heap}
    {ai_WayError : Addr} {ai_CircularName : Addr} {C_WayError : Addr} {C_CircularName : Addr}
    (X : K.In h) (G : h.Ns mainGlobals mg)
    (h_CircularName : PySem.W.nsIn K mainGlobals "CircularName" = some (some (.ref C_CircularName)))
    (FN_WayError : ZX.SupFn l.prog K ai_WayError C_WayError "WayError.__init__" (defArgs s_WayError___init__) (defBody s_WayError___init__) (defScope s_WayError___init__))
    (FN_CircularName : ZX.SupFn l.prog K ai_CircularName C_CircularName "CircularName.__init__" (defArgs s_CircularName___init__) (defBody s_CircularName___init__) (defScope s_CircularName___init__))
    (xb_CircularName : xh2B K C_CircularName C_WayError ai_CircularName ai_WayError [.type "ValueError", .type "Exception", .type "BaseException", .type "object"] "ValueError" "ValueError.__new__" "ValueError.__init__" (.ref ai_WayError) ["tag", "name"] = true)
    (b_super : PySem.W.nsIn K mainGlobals "super" = some none)
    (tp_any : PySem.W.nsIn K cStatics "thirdparty.any" = some none)
    (top_super : (l.prog.main.scope.names.lookup ("super" : Str)).isSome = false)
    : XMk l.prog w K mg base "CircularName" C_CircularName 2 "CircularName" ["name"] := by
  have SMk : L2.Mod K mg base → ZX.SupM l.prog K mg base := fun M => ⟨M, PySem.W.mg_none_of X G b_super, top_super, tp_any⟩
  obtain ⟨kc_CircularName, xi_CircularName, xo_CircularName, xk_CircularName, xs_CircularName, xD_CircularName, xI_CircularName, xt_CircularName, xB_CircularName, xR_CircularName, xT_CircularName, xm_CircularName_CircularName, xu_CircularName_CircularName, xm_CircularName_WayError, xu_CircularName_WayError, xg_WayError, xh_WayError, _, _⟩ := xh2_ok xb_CircularName
  have xa_CircularName_tag : PySem.W.findIn K (.ref C_CircularName) "tag" = some none := (xh2_ok xb_CircularName).at_ (by decide +kernel)
  have xa_CircularName_name : PySem.W.findIn K (.ref C_CircularName) "name" = some none := (xh2_ok xb_CircularName).at_ (by decide +kernel)
  have TX_CircularName : ZX.ExC K C_CircularName [.type "ValueError", .type "Exception", .type "BaseException", .type "object"] "ValueError.__new__" := ⟨xi_CircularName, xo_CircularName, xk_CircularName, xs_CircularName⟩
  refine ⟨PySem.W.mg_of X G h_CircularName, kc_CircularName, fun M => ⟨"ValueError", "ValueError.__new__", "ValueError.__init__", _, ai_CircularName, PySem.F.excBase_ValueError, xi_CircularName, xI_CircularName, xt_CircularName, ?_⟩, xB_CircularName, xT_CircularName⟩
  have F2 : ZX.InitOk l.prog w base 1 ai_WayError C_CircularName ZX.G1 := ZX.initBase PySem.W.kxs_ValueError PySem.F.excBase_ValueError PySem.F.store_ValueError (SMk M) FN_WayError ss_WayError TX_CircularName xD_CircularName po_WayError xm_CircularName_WayError xu_CircularName_WayError xR_CircularName xa_CircularName_tag rfl (fun env => ⟨rfl, rfl, ⟨_, rfl⟩⟩) (fun env => rfl) (r0 := (fun v => v "tag")) (r1 := (fun v => v "tag")) (fun env vof h => ZX.Rd1.par (by show env.scope.names.lookup _ = _; rw [h]; rfl) rfl) (fun env vof h => ZX.Rd1.par (by show env.scope.names.lookup _ = _; rw [h]; rfl) rfl) (fun v1 v2 h => h "tag" (by simp))
  have F1 := ZX.initOwn (l := (["name"] : List Str).map fun p => (p, p)) F2 PySem.F.store_ValueError (SMk M) FN_CircularName ss_CircularName TX_CircularName xD_CircularName po_CircularName xm_CircularName_CircularName xu_CircularName_CircularName xg_WayError xh_WayError rfl (fun env => ⟨rfl, rfl, ⟨_, rfl⟩⟩) (r0 := fun _ => V.str "CircularName") (fun env vof h => ZX.Rd1.txt) (fun v1 v2 h => rfl) (fun env h => .cons rfl (by show env.scope.names.lookup _ = _; rw [h]; rfl) rfl (.nil)) (fun fp hm => by
    simp only [List.map_cons, List.map_nil, List.mem_cons, List.not_mem_nil, or_false] at hm
    subst hm; exact ⟨xa_CircularName_name, by simp⟩) (by simp) (fun vs fs h => by unfold ZX.G1 at h; split at h <;> cases h; simp)
  exact F1.cast (fun vs => ZX.own_eq (by decide) vs)
theorem xm_X_InUse {l : PySem.W.OpenLaw} {w : World} {K : PySem.W.Frag} {h : Heap} {mg : Str → Option Value} {base : Heap}
    {ai_WayError : Addr} {ai_InUse : Addr} {C_WayError : Addr} {C_InUse : Addr}
    (X : K.In h) (G : h.Ns mainGlobals mg)
    (h_InUse : PySem.W.nsIn K mainGlobals "InUse" = some (some (.ref C_InUse)))
    (FN_WayError : ZX.SupFn l.prog K ai_WayError C_WayError "WayError.__init__" (defArgs s_WayError___init__) (defBody s_WayError___init__) (defScope s_WayError___init__))
    (FN_InUse : ZX.SupFn l.prog K ai_InUse C_InUse "InUse.__init__" (defArgs s_InUse___init__) (defBody s_InUse___init__) (defScope s_InUse___init__))
    (xb_InUse : xh2B K C_InUse C_WayError ai_InUse ai_WayError [.type "ValueError", .type "Exception", .type "BaseException", .type "object"] "ValueError" "ValueError.__new__" "ValueError.__init__" (.ref ai_WayError) ["tag", "user"] = true)
    (b_super : PySem.W.nsIn K mainGlobals "super" = some none)
    (tp_any : PySem.W.nsIn K cStatics "thirdparty.any" = some none)
    (top_super : (l.prog.main.scope.names.lookup ("super" : Str)).isSome = false)
    : XMk l.prog w K mg base "InUse" C_InUse 2 "InUse" ["user"] := by
  have SMk : L2.Mod K mg base → ZX.SupM l.prog K mg base := fun M => ⟨M, PySem.W.mg_none_of X G b_super, top_super, tp_any⟩
  obtain ⟨kc_InUse, xi_InUse, xo_InUse, xk_InUse, xs_InUse, xD_InUse, xI_InUse, xt_InUse, xB_InUse, xR_InUse, xT_InUse, xm_InUse_InUse, xu_InUse_InUse, xm_InUse_WayError, xu_InUse_WayError, xg_WayError, xh_WayError, _, _⟩ := xh2_ok xb_InUse
  have xa_InUse_tag : PySem.W.findIn K (.ref C_InUse) "tag" = some none := (xh2_ok xb_InUse).at_ (by decide +kernel)
  have xa_InUse_user : PySem.W.findIn K (.ref C_InUse) "user" = some none := (xh2_ok xb_InUse).at_ (by decide +kernel)
  have TX_InUse : ZX.ExC K C_InUse [.type "ValueError", .type "Exception", .type "BaseException", .type "object"] "ValueError.__new__" := ⟨xi_InUse, xo_InUse, xk_InUse, xs_InUse⟩
  refine ⟨PySem.W.mg_of X G h_InUse, kc_InUse, fun M => ⟨"ValueError", "ValueError.__new__", "ValueError.__init__", _, ai_InUse, PySem.F.excBase_ValueError, xi_InUse, xI_InUse, xt_InUse, ?_⟩, xB_InUse, xT_InUse⟩
  have F2 : ZX.InitOk l.prog w base 1 ai_WayError C_InUse ZX.G1 := ZX.initBase PySem.W.kxs_ValueError PySem.F.excBase_ValueError PySem.F.store_ValueError (SMk M) FN_WayError ss_WayError TX_InUse xD_InUse po_WayError xm_InUse_WayError xu_InUse_WayError xR_InUse xa_InUse_tag rfl (fun env => ⟨rfl, rfl, ⟨_, rfl⟩⟩) (fun env => rfl) (r0 := (fun v => v "tag")) (r1 := (fun v => v "tag")) (fun env vof h => ZX.Rd1.par (by show env.scope.names.lookup _ = _; rw [h]; rfl) rfl) (fun env vof h => ZX.Rd1.par (by show env.scope.names.lookup _ = _; rw [h]; rfl) rfl) (fun v1 v2 h => h "tag" (by simp))
  have F1 := ZX.initOwn (l := (["user"] : List Str).map fun p => (p, p)) F2 PySem.F.store_ValueError (SMk M) FN_InUse ss_InUse TX_InUse xD_InUse po_InUse xm_InUse_InUse xu_InUse_InUse xg_WayError xh_WayError rfl (fun env => ⟨rfl, rfl, ⟨_, rfl⟩⟩) (r0 := fun _ => V.str "InUse") (fun env vof h => ZX.Rd1.txt) (fun v1 v2 h => rfl) (fun env h => .cons rfl (by show env.scope.names.lookup _ = _; rw [h]; rfl) rfl (.nil)) (fun fp hm => by
    simp only [List.map_cons, List.map_nil, List.mem_cons, List.not_mem_nil, or_false] at hm
    subst hm; exact ⟨xa_InUse_user, by simp⟩) (by simp) (fun vs fs h => by unfold ZX.G1 at h; split at h <;> cases h; simp)
  exact F1.cast (fun vs => ZX.own_eq (by decide) vs)
theorem xm_XK_InUse_0 {l : PySem.W.OpenLaw} {w : World} {K : PySem.W.Frag} {h : Heap} {mg : Str → Option Value} {base : Heap}
    {ai_WayError : Addr} {ai_InUse : Addr} {C_WayError : Addr} {C_InUse : Addr}
    (X : K.In h) (G : h.Ns mainGlobals mg) (X_InUse : XMk l.prog w K mg base "InUse" C_InUse 2 "InUse" ["user"])
    (FN_WayError : ZX.SupFn l.prog K ai_WayError C_WayError "WayError.__init__" (defArgs s_WayError___init__) (defBody s_WayError___init__) (defScope s_WayError___init__))
    (FN_InUse : ZX.SupFn l.prog K ai_InUse C_InUse "InUse.__init__" (defArgs s_InUse___init__) (defBody s_InUse___init__) (defScope s_InUse___init__))
    (xb_InUse : xh2B K C_InUse C_WayError ai_InUse ai_WayError [.type "ValueError", .type "Exception", .type "BaseException", .type "object"] "ValueError" "ValueError.__new__" "ValueError.__init__" (.ref ai_WayError) ["tag", "user"] = true)
    (b_super : PySem.W.nsIn K mainGlobals "super" = some none)
    (tp_any : PySem.W.nsIn K cStatics "thirdparty.any" = some none)
    (top_super : (l.prog.main.scope.names.lookup ("super" : Str)).isSome = false)
    : XMkK l.prog w K mg base "InUse" C_InUse 2 "InUse" ["user"] ["user"] [0] [0] := by
  have SMk : L2.Mod K mg base → ZX.SupM l.prog K mg base := fun M => ⟨M, PySem.W.mg_none_of X G b_super, top_super, tp_any⟩
  obtain ⟨kc_InUse, xi_InUse, xo_InUse, xk_InUse, xs_InUse, xD_InUse, xI_InUse, xt_InUse, xB_InUse, xR_InUse, xT_InUse, xm_InUse_InUse, xu_InUse_InUse, xm_InUse_WayError, xu_InUse_WayError, xg_WayError, xh_WayError, _, _⟩ := xh2_ok xb_InUse
  have xa_InUse_tag : PySem.W.findIn K (.ref C_InUse) "tag" = some none := (xh2_ok xb_InUse).at_ (by decide +kernel)
  have xa_InUse_user : PySem.W.findIn K (.ref C_InUse) "user" = some none := (xh2_ok xb_InUse).at_ (by decide +kernel)
  have TX_InUse : ZX.ExC K C_InUse [.type "ValueError", .type "Exception", .type "BaseException", .type "object"] "ValueError.__new__" := ⟨xi_InUse, xo_InUse, xk_InUse, xs_InUse⟩
  refine ⟨X_InUse, fun M => ⟨"ValueError", "ValueError.__new__", "ValueError.__init__", _, ai_InUse, PySem.F.excBase_ValueError, xi_InUse, xI_InUse, xt_InUse, ?_⟩, fun ws h => match ws, h with | [_], _ => rfl, fun ws h => match ws, h with | [_], _ => rfl⟩
  have F2 : ZX.InitOk l.prog w base 1 ai_WayError C_InUse ZX.G1 := ZX.initBase PySem.W.kxs_ValueError PySem.F.excBase_ValueError PySem.F.store_ValueError (SMk M) FN_WayError ss_WayError TX_InUse xD_InUse po_WayError xm_InUse_WayError xu_InUse_WayError xR_InUse xa_InUse_tag rfl (fun env => ⟨rfl, rfl, ⟨_, rfl⟩⟩) (fun env => rfl) (r0 := (fun v => v "tag")) (r1 := (fun v => v "tag")) (fun env vof h => ZX.Rd1.par (by show env.scope.names.lookup _ = _; rw [h]; rfl) rfl) (fun env vof h => ZX.Rd1.par (by show env.scope.names.lookup _ = _; rw [h]; rfl) rfl) (fun v1 v2 h => h "tag" (by simp))
  have F1 := ZX.initOwnA (mk := fun us => ⟨us.take 1, (["user"] : List Str).zip (pickL [0] (us.drop 1))⟩) (fun fd us h hd hl => by
    obtain ⟨⟩ := fd
    cases h
    cases hd
    exact match us, hl with | [_, _], _ => rfl) (l := (["user"] : List Str).map fun p => (p, p)) F2 PySem.F.store_ValueError (SMk M) FN_InUse ss_InUse TX_InUse xD_InUse po_InUse xm_InUse_InUse xu_InUse_InUse xg_WayError xh_WayError rfl (fun env => ⟨rfl, rfl, ⟨_, rfl⟩⟩) (r0 := fun _ => V.str "InUse") (fun env vof h => ZX.Rd1.txt) (fun v1 v2 h => rfl) (fun env h => .cons rfl (by show env.scope.names.lookup _ = _; rw [h]; rfl) rfl (.nil)) (fun fp hm => by
    simp only [List.map_cons, List.map_nil, List.mem_cons, List.not_mem_nil, or_false] at hm
    subst hm; exact ⟨xa_InUse_user, by simp⟩) (by simp) (fun vs fs h => by unfold ZX.G1 at h; split at h <;> cases h; simp)
  exact F1.cast (fun vs => ZX.own_eq (by decide) vs)
theorem xm_X_Breaks {l : PySem.W.OpenLaw} {w : World} {K : PySem.W.Frag} {h : Heap} {mg : Str → Option Value} {base : Heap}
    {ai_WayError : Addr} {ai_Breaks : Addr} {C_WayError : Addr} {C_Breaks : Addr}
    (X : K.In h) (G : h.Ns mainGlobals mg)
    (h_Breaks : PySem.W.nsIn K mainGlobals "Breaks" = some (some (.ref C_Breaks)))
    (FN_WayError : ZX.SupFn l.prog K ai_WayError C_WayError "WayError.__init__" (defArgs s_WayError___init__) (defBody s_WayError___init__) (defScope s_WayError___init__))
    (FN_Breaks : ZX.SupFn l.prog K ai_Breaks C_Breaks "Breaks.__init__" (defArgs s_Breaks___init__) (defBody s_Breaks___init__) (defScope s_Breaks___init__))
    (xb_Breaks : xh2B K C_Breaks C_WayError ai_Breaks ai_WayError [.type "ValueError", .type "Exception", .type "BaseException", .type "object"] "ValueError" "ValueError.__new__" "ValueError.__init__" (.ref ai_WayError) ["tag", "user", "word"] = true)
    (b_super : PySem.W.nsIn K mainGlobals "super" = some none)
    (tp_any : PySem.W.nsIn K cStatics "thirdparty.any" = some none)
    (top_super : (l.prog.main.scope.names.lookup ("super" : Str)).isSome = false)
    : XMk l.prog w K mg base "Breaks" C_Breaks 2 "Breaks" ["user", "word"] := by
  have SMk : L2.Mod K mg base → ZX.SupM l.prog K mg base := fun M => ⟨M, PySem.W.mg_none_of X G b_super, top_super, tp_any⟩
  obtain ⟨kc_Breaks, xi_Breaks, xo_Breaks, xk_Breaks, xs_Breaks, xD_Breaks, xI_Breaks, xt_Breaks, xB_Breaks, xR_Breaks, xT_Breaks, xm_Breaks_Breaks, xu_Breaks_Breaks, xm_Breaks_WayError, xu_Breaks_WayError, xg_WayError, xh_WayError, _, _⟩ := xh2_ok xb_Breaks
  have xa_Breaks_tag : PySem.W.findIn K (.ref C_Breaks) "tag" = some none := (xh2_ok xb_Breaks).at_ (by decide +kernel)
  have xa_Breaks_user : PySem.W.findIn K (.ref C_Breaks) "user" = some none := (xh2_ok xb_Breaks).at_ (by decide +kernel)
  have xa_Breaks_word : PySem.W.findIn K (.ref C_Breaks) "word" = some none := (xh2_ok xb_Breaks).at_ (by decide +kernel)
  have TX_Breaks : ZX.ExC K C_Breaks [.type "ValueError", .type "Exception", .type "BaseException", .type "object"] "ValueError.__new__" := ⟨xi_Breaks, xo_Breaks, xk_Breaks, xs_Breaks⟩
  refine ⟨PySem.W.mg_of X G h_Breaks, kc_Breaks, fun M => ⟨"ValueError", "ValueError.__new__", "ValueError.__init__", _, ai_Breaks, PySem.F.excBase_ValueError, xi_Breaks, xI_Breaks, xt_Breaks, ?_⟩, xB_Breaks, xT_Breaks⟩
  have F2 : ZX.InitOk l.prog w base 1 ai_WayError C_Breaks ZX.G1 := ZX.initBase PySem.W.kxs_ValueError PySem.F.excBase_ValueError PySem.F.store_ValueError (SMk M) FN_WayError ss_WayError TX_Breaks xD_Breaks po_WayError xm_Breaks_WayError xu_Breaks_WayError xR_Breaks xa_Breaks_tag rfl (fun env => ⟨rfl, rfl, ⟨_, rfl⟩⟩) (fun env => rfl) (r0 := (fun v => v "tag")) (r1 := (fun v => v "tag")) (fun env vof h => ZX.Rd1.par (by show env.scope.names.lookup _ = _; rw [h]; rfl) rfl) (fun env vof h => ZX.Rd1.par (by show env.scope.names.lookup _ = _; rw [h]; rfl) rfl) (fun v1 v2 h => h "tag" (by simp))
  have F1 := ZX.initOwn (l := (["user", "word"] : List Str).map fun p => (p, p)) F2 PySem.F.store_ValueError (SMk M) FN_Breaks ss_Breaks TX_Breaks xD_Breaks po_Breaks xm_Breaks_Breaks xu_Breaks_Breaks xg_WayError xh_WayError rfl (fun env => ⟨rfl, rfl, ⟨_, rfl⟩⟩) (r0 := fun _ => V.str "Breaks") (fun env vof h => ZX.Rd1.txt) (fun v1 v2 h => rfl) (fun env h => .cons rfl (by show env.scope.names.lookup _ = _; rw [h]; rfl) rfl (.cons rfl (by show env.scope.names.lookup _ = _; rw [h]; rfl) rfl (.nil))) (fun fp hm => by
    simp only [List.map_cons, List.map_nil, List.mem_cons, List.not_mem_nil, or_false] at hm
    rcases hm with rfl | rfl
    · exact ⟨xa_Breaks_user, by simp⟩
    · exact ⟨xa_Breaks_word, by simp⟩) (by simp) (fun vs fs h => by unfold ZX.G1 at h; split at h <;> cases h; simp)
  exact F1.cast (fun vs => ZX.own_eq (by decide) vs)
theorem xm_XK_Breaks_0 {l : PySem.W.OpenLaw} {w : World} {K : PySem.W.Frag} {h : Heap} {mg : Str → Option Value} {base : Heap}
    {ai_WayError : Addr} {ai_Breaks : Addr} {C_WayError : Addr} {C_Breaks : Addr}
    (X : K.In h) (G : h.Ns mainGlobals mg) (X_Breaks : XMk l.prog w K mg base "Breaks" C_Breaks 2 "Breaks" ["user", "word"])
    (FN_WayError : ZX.SupFn l.prog K ai_WayError C_WayError "WayError.__init__" (defArgs s_WayError___init__) (defBody s_WayError___init__) (defScope s_WayError___init__))
    (FN_Breaks : ZX.SupFn l.prog K ai_Breaks C_Breaks "Breaks.__init__" (defArgs s_Breaks___init__) (defBody s_Breaks___init__) (defScope s_Breaks___init__))
    (xb_Breaks : xh2B K C_Breaks C_WayError ai_Breaks ai_WayError [.type "ValueError", .type "Exception", .type "BaseException", .type "object"] "ValueError" "ValueError.__new__" "ValueError.__init__" (.ref ai_WayError) ["tag", "user", "word"] = true)
    (b_super : PySem.W.nsIn K mainGlobals "super" = some none)
    (tp_any : PySem.W.nsIn K cStatics "thirdparty.any" = some none)
    (top_super : (l.prog.main.scope.names.lookup ("super" : Str)).isSome = false)
    : XMkK l.prog w K mg base "Breaks" C_Breaks 2 "Breaks" ["user", "word"] ["word", "user"] [1, 0] [1, 0] := by
  have SMk : L2.Mod K mg base → ZX.SupM l.prog K mg base := fun M => ⟨M, PySem.W.mg_none_of X G b_super, top_super, tp_any⟩
  obtain ⟨kc_Breaks, xi_Breaks, xo_Breaks, xk_Breaks, xs_Breaks, xD_Breaks, xI_Breaks, xt_Breaks, xB_Breaks, xR_Breaks, xT_Breaks, xm_Breaks_Breaks, xu_Breaks_Breaks, xm_Breaks_WayError, xu_Breaks_WayError, xg_WayError, xh_WayError, _, _⟩ := xh2_ok xb_Breaks
  have xa_Breaks_tag : PySem.W.findIn K (.ref C_Breaks) "tag" = some none := (xh2_ok xb_Breaks).at_ (by decide +kernel)
  have xa_Breaks_user : PySem.W.findIn K (.ref C_Breaks) "user" = some none := (xh2_ok xb_Breaks).at_ (by decide +kernel)
  have xa_Breaks_word : PySem.W.findIn K (.ref C_Breaks) "word" = some none := (xh2_ok xb_Breaks).at_ (by decide +kernel)
  have TX_Breaks : ZX.ExC K C_Breaks [.type "ValueError", .type "Exception", .type "BaseException", .type "object"] "ValueError.__new__" := ⟨xi_Breaks, xo_Breaks, xk_Breaks, xs_Breaks⟩
  refine ⟨X_Breaks, fun M => ⟨"ValueError", "ValueError.__new__", "ValueError.__init__", _, ai_Breaks, PySem.F.excBase_ValueError, xi_Breaks, xI_Breaks, xt_Breaks, ?_⟩, fun ws h => match ws, h with | [_, _], _ => rfl, fun ws h => match ws, h with | [_, _], _ => rfl⟩
  have F2 : ZX.InitOk l.prog w base 1 ai_WayError C_Breaks ZX.G1 := ZX.initBase PySem.W.kxs_ValueError PySem.F.excBase_ValueError PySem.F.store_ValueError (SMk M) FN_WayError ss_WayError TX_Breaks xD_Breaks po_WayError xm_Breaks_WayError xu_Breaks_WayError xR_Breaks xa_Breaks_tag rfl (fun env => ⟨rfl, rfl, ⟨_, rfl⟩⟩) (fun env => rfl) (r0 := (fun v => v "tag")) (r1 := (fun v => v "tag")) (fun env vof h => ZX.Rd1.par (by show env.scope.names.lookup _ = _; rw [h]; rfl) rfl) (fun env vof h => ZX.Rd1.par (by show env.scope.names.lookup _ = _; rw [h]; rfl) rfl) (fun v1 v2 h => h "tag" (by simp))
  have F1 := ZX.initOwnA (mk := fun us => ⟨us.take 1, (["word", "user"] : List Str).zip (pickL [1, 0] (us.drop 1))⟩) (fun fd us h hd hl => by
    obtain ⟨⟩ := fd
    cases h
    cases hd
    exact match us, hl with | [_, _, _], _ => rfl) (l := (["user", "word"] : List Str).map fun p => (p, p)) F2 PySem.F.store_ValueError (SMk M) FN_Breaks ss_Breaks TX_Breaks xD_Breaks po_Breaks xm_Breaks_Breaks xu_Breaks_Breaks xg_WayError xh_WayError rfl (fun env => ⟨rfl, rfl, ⟨_, rfl⟩⟩) (r0 := fun _ => V.str "Breaks") (fun env vof h => ZX.Rd1.txt) (fun v1 v2 h => rfl) (fun env h => .cons rfl (by show env.scope.names.lookup _ = _; rw [h]; rfl) rfl (.cons rfl (by show env.scope.names.lookup _ = _; rw [h]; rfl) rfl (.nil))) (fun fp hm => by
    simp only [List.map_cons, List.map_nil, List.mem_cons, List.not_mem_nil, or_false] at hm
    rcases hm with rfl | rfl
    · exact ⟨xa_Breaks_user, by simp⟩
    · exact ⟨xa_Breaks_word, by simp⟩) (by simp) (fun vs fs h => by unfold ZX.G1 at h; split at h <;> cases h; simp)
  exact F1.cast (fun vs => ZX.own_eq (by decide) vs)
theorem xm_X_CapacityExceeded {l : PySem.W.OpenLaw} {w : World} {K : PySem.W.Frag} {h : Heap} {mg : Str → Option Value} {base : Heap}
    {ai_WayError : Addr} {ai_CapacityExceeded : Addr} {C_WayError : Addr} {C_CapacityExceeded : Addr}
    (X : K.In h) (G : h.Ns mainGlobals mg)
    (h_CapacityExceeded : PySem.W.nsIn K mainGlobals "CapacityExceeded" = some (some (.ref C_CapacityExceeded)))
    (FN_WayError : ZX.SupFn l.prog K ai_WayError C_WayError "WayError.__init__" (defArgs s_WayError___init__) (defBody s_WayError___init__) (defScope s_WayError___init__))
    (FN_CapacityExceeded : ZX.SupFn l.prog K ai_CapacityExceeded C_CapacityExceeded "CapacityExceeded.__init__" (defArgs s_CapacityExceeded___init__) (defBody s_CapacityExceeded___init__) (defScope s_CapacityExceeded___init__))
    (xb_CapacityExceeded : xh2B K C_CapacityExceeded C_WayError ai_CapacityExceeded ai_WayError [.type "ValueError", .type "Exception", .type "BaseException", .type "object"] "ValueError" "ValueError.__new__" "ValueError.__init__" (.ref ai_WayError) ["tag", "limit"] = true)
    (b_super : PySem.W.nsIn K mainGlobals "super" = some none)
    (tp_any : PySem.W.nsIn K cStatics "thirdparty.any" = some none)
    (top_super : (l.prog.main.scope.names.lookup ("super" : Str)).isSome = false)
    : XMk l.prog w K mg base "CapacityExceeded" C_CapacityExceeded 2 "CapacityExceeded" ["limit"] := by
  have SMk : L2.Mod K mg base → ZX.SupM l.prog K mg base := fun M => ⟨M, PySem.W.mg_none_of X G b_super, top_super, tp_any⟩
  obtain ⟨kc_CapacityExceeded, xi_CapacityExceeded, xo_CapacityExceeded, xk_CapacityExceeded, xs_CapacityExceeded, xD_CapacityExceeded, xI_CapacityExceeded, xt_CapacityExceeded, xB_CapacityExceeded, xR_CapacityExceeded, xT_CapacityExceeded, xm_CapacityExceeded_CapacityExceeded, xu_CapacityExceeded_CapacityExceeded, xm_CapacityExceeded_WayError, xu_CapacityExceeded_WayError, xg_WayError, xh_WayError, _, _⟩ := xh2_ok xb_CapacityExceeded
  have xa_CapacityExceeded_tag : PySem.W.findIn K (.ref C_CapacityExceeded) "tag" = some none := (xh2_ok xb_CapacityExceeded).at_ (by decide +kernel)
  have xa_CapacityExceeded_limit : PySem.W.findIn K (.ref C_CapacityExceeded) "limit" = some none := (xh2_ok xb_CapacityExceeded).at_ (by decide +kernel)
  have TX_CapacityExceeded : ZX.ExC K C_CapacityExceeded [.type "ValueError", .type "Exception", .type "BaseException", .type "object"] "ValueError.__new__" := ⟨xi_CapacityExceeded, xo_CapacityExceeded, xk_CapacityExceeded, xs_CapacityExceeded⟩
  refine ⟨PySem.W.mg_of X G h_CapacityExceeded, kc_CapacityExceeded, fun M => ⟨"ValueError", "ValueError.__new__", "ValueError.__init__", _, ai_CapacityExceeded, PySem.F.excBase_ValueError, xi_CapacityExceeded, xI_CapacityExceeded, xt_CapacityExceeded, ?_⟩, xB_CapacityExceeded, xT_CapacityExceeded⟩
  have F2 : ZX.InitOk l.prog w base 1 ai_WayError C_CapacityExceeded ZX.G1 := ZX.initBase PySem.W.kxs_ValueError PySem.F.excBase_ValueError PySem.F.store_ValueError (SMk M) FN_WayError ss_WayError TX_CapacityExceeded xD_CapacityExceeded po_WayError xm_CapacityExceeded_WayError xu_CapacityExceeded_WayError xR_CapacityExceeded xa_CapacityExceeded_tag rfl (fun env => ⟨rfl, rfl, ⟨_, rfl⟩⟩) (fun env => rfl) (r0 := (fun v => v "tag")) (r1 := (fun v => v "tag")) (fun env vof h => ZX.Rd1.par (by show env.scope.names.lookup _ = _; rw [h]; rfl) rfl) (fun env vof h => ZX.Rd1.par (by show env.scope.names.lookup _ = _; rw [h]; rfl) rfl) (fun v1 v2 h => h "tag" (by simp))
  have F1 := ZX.initOwn (l := (["limit"] : List Str).map fun p => (p, p)) F2 PySem.F.store_ValueError (SMk M) FN_CapacityExceeded ss_CapacityExceeded TX_CapacityExceeded xD_CapacityExceeded po_CapacityExceeded xm_CapacityExceeded_CapacityExceeded xu_CapacityExceeded_CapacityExceeded xg_WayError xh_WayError rfl (fun env => ⟨rfl, rfl, ⟨_, rfl⟩⟩) (r0 := fun _ => V.str "CapacityExceeded") (fun env vof h => ZX.Rd1.txt) (fun v1 v2 h => rfl) (fun env h => .cons rfl (by show env.scope.names.lookup _ = _; rw [h]; rfl) rfl (.nil)) (fun fp hm => by
    simp only [List.map_cons, List.map_nil, List.mem_cons, List.not_mem_nil, or_false] at hm
    subst hm; exact ⟨xa_CapacityExceeded_limit, by simp⟩) (by simp) (fun vs fs h => by unfold ZX.G1 at h; split at h <;> cases h; simp)
  exact F1.cast (fun vs => ZX.own_eq (by decide) vs)
theorem xm_X_InvalidLimit {l : PySem.W.OpenLaw} {w : World} {K : PySem.W.Frag} {h : Heap} {mg : Str → Option Value} {base : Heap}
    {ai_WayError : Addr} {ai_InvalidLimit : Addr} {C_WayError : Addr} {C_InvalidLimit : Addr}
    (X : K.In h) (G : h.Ns mainGlobals mg)
    (h_InvalidLimit : PySem.W.nsIn K mainGlobals "InvalidLimit" = some (some (.ref C_InvalidLimit)))
    (FN_WayError : ZX.SupFn l.prog K ai_WayError C_WayError "WayError.__init__" (defArgs s_WayError___init__) (defBody s_WayError___init__) (defScope s_WayError___init__))
    (FN_InvalidLimit : ZX.SupFn l.prog K ai_InvalidLimit C_InvalidLimit "InvalidLimit.__init__" (defArgs s_InvalidLimit___init__) (defBody s_InvalidLimit___init__) (defScope s_InvalidLimit___init__))
    (xb_InvalidLimit : xh2B K C_InvalidLimit C_WayError ai_InvalidLimit ai_WayError [.type "ValueError", .type "Exception", .type "BaseException", .type "object"] "ValueError" "ValueError.__new__" "ValueError.__init__" (.ref ai_WayError) ["tag", "value"] = true)
    (b_super : PySem.W.nsIn K mainGlobals "super" = some none)
    (tp_any : PySem.W.nsIn K cStatics "thirdparty.any" = some none)
    (top_super : (l.prog.main.scope.names.lookup ("super" : Str)).isSome = false)
    : XMk l.prog w K mg base "InvalidLimit" C_InvalidLimit 2 "InvalidLimit" ["value"] := by
  have SMk : L2.Mod K mg base → ZX.SupM l.prog K mg base := fun M => ⟨M, PySem.W.mg_none_of X G b_super, top_super, tp_any⟩
  obtain ⟨kc_InvalidLimit, xi_InvalidLimit, xo_InvalidLimit, xk_InvalidLimit, xs_InvalidLimit, xD_InvalidLimit, xI_InvalidLimit, xt_InvalidLimit, xB_InvalidLimit, xR_InvalidLimit, xT_InvalidLimit, xm_InvalidLimit_InvalidLimit, xu_InvalidLimit_InvalidLimit, xm_InvalidLimit_WayError, xu_InvalidLimit_WayError, xg_WayError, xh_WayError, _, _⟩ := xh2_ok xb_InvalidLimit
  have xa_InvalidLimit_tag : PySem.W.findIn K (.ref C_InvalidLimit) "tag" = some none := (xh2_ok xb_InvalidLimit).at_ (by decide +kernel)
  have xa_InvalidLimit_value : PySem.W.findIn K (.ref C_InvalidLimit) "value" = some none := (xh2_ok xb_InvalidLimit).at_ (by decide +kernel)
  have TX_InvalidLimit : ZX.ExC K C_InvalidLimit [.type "ValueError", .type "Exception", .type "BaseException", .type "object"] "ValueError.__new__" := ⟨xi_InvalidLimit, xo_InvalidLimit, xk_InvalidLimit, xs_InvalidLimit⟩
  refine ⟨PySem.W.mg_of X G h_InvalidLimit, kc_InvalidLimit, fun M => ⟨"ValueError", "ValueError.__new__", "ValueError.__init__", _, ai_InvalidLimit, PySem.F.excBase_ValueError, xi_InvalidLimit, xI_InvalidLimit, xt_InvalidLimit, ?_⟩, xB_InvalidLimit, xT_InvalidLimit⟩
  have F2 : ZX.InitOk l.prog w base 1 ai_WayError C_InvalidLimit ZX.G1 := ZX.initBase PySem.W.kxs_ValueError PySem.F.excBase_ValueError PySem.F.store_ValueError (SMk M) FN_WayError ss_WayError TX_InvalidLimit xD_InvalidLimit po_WayError xm_InvalidLimit_WayError xu_InvalidLimit_WayError xR_InvalidLimit xa_InvalidLimit_tag rfl (fun env => ⟨rfl, rfl, ⟨_, rfl⟩⟩) (fun env => rfl) (r0 := (fun v => v "tag")) (r1 := (fun v => v "tag")) (fun env vof h => ZX.Rd1.par (by show env.scope.names.lookup _ = _; rw [h]; rfl) rfl) (fun env vof h => ZX.Rd1.par (by show env.scope.names.lookup _ = _; rw [h]; rfl) rfl) (fun v1 v2 h => h "tag" (by simp))
  have F1 := ZX.initOwn (l := (["value"] : List Str).map fun p => (p, p)) F2 PySem.F.store_ValueError (SMk M) FN_InvalidLimit ss_InvalidLimit TX_InvalidLimit xD_InvalidLimit po_InvalidLimit xm_InvalidLimit_InvalidLimit xu_InvalidLimit_InvalidLimit xg_WayError xh_WayError rfl (fun env => ⟨rfl, rfl, ⟨_, rfl⟩⟩) (r0 := fun _ => V.str "InvalidLimit") (fun env vof h => ZX.Rd1.txt) (fun v1 v2 h => rfl) (fun env h => .cons rfl (by show env.scope.names.lookup _ = _; rw [h]; rfl) rfl (.nil)) (fun fp hm => by
    simp only [List.map_cons, List.map_nil, List.mem_cons, List.not_mem_nil, or_false] at hm
    subst hm; exact ⟨xa_InvalidLimit_value, by simp⟩) (by simp) (fun vs fs h => by unfold ZX.G1 at h; split at h <;> cases h; simp)
  exact F1.cast (fun vs => ZX.own_eq (by decide) vs)
theorem xm_X_InvalidCommand {l : PySem.W.OpenLaw} {w : World} {K : PySem.W.Frag} {h : Heap} {mg : Str → Option Value} {base : Heap}
    {ai_WayError : Addr} {ai_InvalidCommand : Addr} {C_WayError : Addr} {C_InvalidCommand : Addr}
    (X : K.In h) (G : h.Ns mainGlobals mg)
    (h_InvalidCommand : PySem.W.nsIn K mainGlobals "InvalidCommand" = some (some (.ref C_InvalidCommand)))
    (FN_WayError : ZX.SupFn l.prog K ai_WayError C_WayError "WayError.__init__" (defArgs s_WayError___init__) (defBody s_WayError___init__) (defScope s_WayError___init__))
    (FN_InvalidCommand : ZX.SupFn l.prog K ai_InvalidCommand C_InvalidCommand "InvalidCommand.__init__" (defArgs s_InvalidCommand___init__) (defBody s_InvalidCommand___init__) (defScope s_InvalidCommand___init__))
    (xb_InvalidCommand : xh2B K C_InvalidCommand C_WayError ai_InvalidCommand ai_WayError [.type "ValueError", .type "Exception", .type "BaseException", .type "object"] "ValueError" "ValueError.__new__" "ValueError.__init__" (.ref ai_WayError) ["tag", "word"] = true)
    (b_super : PySem.W.nsIn K mainGlobals "super" = some none)
    (tp_any : PySem.W.nsIn K cStatics "thirdparty.any" = some none)
    (top_super : (l.prog.main.scope.names.lookup ("super" : Str)).isSome = false)
    : XMk l.prog w K mg base "InvalidCommand" C_InvalidCommand 2 "InvalidCommand" ["word"] := by
  have SMk : L2.Mod K mg base → ZX.SupM l.prog K mg base := fun M => ⟨M, PySem.W.mg_none_of X G b_super, top_super, tp_any⟩
  obtain ⟨kc_InvalidCommand, xi_InvalidCommand, xo_InvalidCommand, xk_InvalidCommand, xs_InvalidCommand, xD_InvalidCommand, xI_InvalidCommand, xt_InvalidCommand, xB_InvalidCommand, xR_InvalidCommand, xT_InvalidCommand, xm_InvalidCommand_InvalidCommand, xu_InvalidCommand_InvalidCommand, xm_InvalidCommand_WayError, xu_InvalidCommand_WayError, xg_WayError, xh_WayError, _, _⟩ := xh2_ok xb_InvalidCommand
  have xa_InvalidCommand_tag : PySem.W.findIn K (.ref C_InvalidCommand) "tag" = some none := (xh2_ok xb_InvalidCommand).at_ (by decide +kernel)
  have xa_InvalidCommand_word : PySem.W.findIn K (.ref C_InvalidCommand) "word" = some none := (xh2_ok xb_InvalidCommand).at_ (by decide +kernel)
  have TX_InvalidCommand : ZX.ExC K C_InvalidCommand [.type "ValueError", .type "Exception", .type "BaseException", .type "object"] "ValueError.__new__" := ⟨xi_InvalidCommand, xo_InvalidCommand, xk_InvalidCommand, xs_InvalidCommand⟩
  refine ⟨PySem.W.mg_of X G h_InvalidCommand, kc_InvalidCommand, fun M => ⟨"ValueError", "ValueError.__new__", "ValueError.__init__", _, ai_InvalidCommand, PySem.F.excBase_ValueError, xi_InvalidCommand, xI_InvalidCommand, xt_InvalidCommand, ?_⟩, xB_InvalidCommand, xT_InvalidCommand⟩
  have F2 : ZX.InitOk l.prog w base 1 ai_WayError C_InvalidCommand ZX.G1 := ZX.initBase PySem.W.kxs_ValueError PySem.F.excBase_ValueError PySem.F.store_ValueError (SMk M) FN_WayError ss_WayError TX_InvalidCommand xD_InvalidCommand po_WayError xm_InvalidCommand_WayError xu_InvalidCommand_WayError xR_InvalidCommand xa_InvalidCommand_tag rfl (fun env => ⟨rfl, rfl, ⟨_, rfl⟩⟩) (fun env => rfl) (r0 := (fun v => v "tag")) (r1 := (fun v => v "tag")) (fun env vof h => ZX.Rd1.par (by show env.scope.names.lookup _ = _; rw [h]; rfl) rfl) (fun env vof h => ZX.Rd1.par (by show env.scope.names.lookup _ = _; rw [h]; rfl) rfl) (fun v1 v2 h => h "tag" (by simp))
  have F1 := ZX.initOwn (l := (["word"] : List Str).map fun p => (p, p)) F2 PySem.F.store_ValueError (SMk M) FN_InvalidCommand ss_InvalidCommand TX_InvalidCommand xD_InvalidCommand po_InvalidCommand xm_InvalidCommand_InvalidCommand xu_InvalidCommand_InvalidCommand xg_WayError xh_WayError rfl (fun env => ⟨rfl, rfl, ⟨_, rfl⟩⟩) (r0 := fun _ => V.str "InvalidCommand") (fun env vof h => ZX.Rd1.txt) (fun v1 v2 h => rfl) (fun env h => .cons rfl (by show env.scope.names.lookup _ = _; rw [h]; rfl) rfl (.nil)) (fun fp hm => by
    simp only [List.map_cons, List.map_nil, List.mem_cons, List.not_mem_nil, or_false] at hm
    subst hm; exact ⟨xa_InvalidCommand_word, by simp⟩) (by simp) (fun vs fs h => by unfold ZX.G1 at h; split at h <;> cases h; simp)
  exact F1.cast (fun vs => ZX.own_eq (by decide) vs)
theorem xm_XK_InvalidCommand_0 {l : PySem.W.OpenLaw} {w : World} {K : PySem.W.Frag} {h : Heap} {mg : Str → Option Value} {base : Heap}
    {ai_WayError : Addr} {ai_InvalidCommand : Addr} {C_WayError : Addr} {C_InvalidCommand : Addr}
    (X : K.In h) (G : h.Ns mainGlobals mg) (X_InvalidCommand : XMk l.prog w K mg base "InvalidCommand" C_InvalidCommand 2 "InvalidCommand" ["word"])
    (FN_WayError : ZX.SupFn l.prog K ai_WayError C_WayError "WayError.__init__" (defArgs s_WayError___init__) (defBody s_WayError___init__) (defScope s_WayError___init__))
    (FN_InvalidCommand : ZX.SupFn l.prog K ai_InvalidCommand C_InvalidCommand "InvalidCommand.__init__" (defArgs s_InvalidCommand___init__) (defBody s_InvalidCommand___init__) (defScope s_InvalidCommand___init__))
    (xb_InvalidCommand : xh2B K C_InvalidCommand C_WayError ai_InvalidCommand ai_WayError [.type "ValueError", .type "Exception", .type "BaseException", .type "object"] "ValueError" "ValueError.__new__" "ValueError.__init__" (.ref ai_WayError) ["tag", "word"] = true)
    (b_super : PySem.W.nsIn K mainGlobals "super" = some none)
    (tp_any : PySem.W.nsIn K cStatics "thirdparty.any" = some none)
    (top_super : (l.prog.main.scope.names.lookup ("super" : Str)).isSome = false)
    : XMkK l.prog w K mg base "InvalidCommand" C_InvalidCommand 2 "InvalidCommand" ["word"] ["word"] [0] [0] := by
  have SMk : L2.Mod K mg base → ZX.SupM l.prog K mg base := fun M => ⟨M, PySem.W.mg_none_of X G b_super, top_super, tp_any⟩
  obtain ⟨kc_InvalidCommand, xi_InvalidCommand, xo_InvalidCommand, xk_InvalidCommand, xs_InvalidCommand, xD_InvalidCommand, xI_InvalidCommand, xt_InvalidCommand, xB_InvalidCommand, xR_InvalidCommand, xT_InvalidCommand, xm_InvalidCommand_InvalidCommand, xu_InvalidCommand_InvalidCommand, xm_InvalidCommand_WayError, xu_InvalidCommand_WayError, xg_WayError, xh_WayError, _, _⟩ := xh2_ok xb_InvalidCommand
  have xa_InvalidCommand_tag : PySem.W.findIn K (.ref C_InvalidCommand) "tag" = some none := (xh2_ok xb_InvalidCommand).at_ (by decide +kernel)
  have xa_InvalidCommand_word : PySem.W.findIn K (.ref C_InvalidCommand) "word" = some none := (xh2_ok xb_InvalidCommand).at_ (by decide +kernel)
  have TX_InvalidCommand : ZX.ExC K C_InvalidCommand [.type "ValueError", .type "Exception", .type "BaseException", .type "object"] "ValueError.__new__" := ⟨xi_InvalidCommand, xo_InvalidCommand, xk_InvalidCommand, xs_InvalidCommand⟩
  refine ⟨X_InvalidCommand, fun M => ⟨"ValueError", "ValueError.__new__", "ValueError.__init__", _, ai_InvalidCommand, PySem.F.excBase_ValueError, xi_InvalidCommand, xI_InvalidCommand, xt_InvalidCommand, ?_⟩, fun ws h => match ws, h with | [_], _ => rfl, fun ws h => match ws, h with | [_], _ => rfl⟩
  have F2 : ZX.InitOk l.prog w base 1 ai_WayError C_InvalidCommand ZX.G1 := ZX.initBase PySem.W.kxs_ValueError PySem.F.excBase_ValueError PySem.F.store_ValueError (SMk M) FN_WayError ss_WayError TX_InvalidCommand xD_InvalidCommand po_WayError xm_InvalidCommand_WayError xu_InvalidCommand_WayError xR_InvalidCommand xa_InvalidCommand_tag rfl (fun env => ⟨rfl, rfl, ⟨_, rfl⟩⟩) (fun env => rfl) (r0 := (fun v => v "tag")) (r1 := (fun v => v "tag")) (fun env vof h => ZX.Rd1.par (by show env.scope.names.lookup _ = _; rw [h]; rfl) rfl) (fun env vof h => ZX.Rd1.par (by show env.scope.names.lookup _ = _; rw [h]; rfl) rfl) (fun v1 v2 h => h "tag" (by simp))
  have F1 := ZX.initOwnA (mk := fun us => ⟨us.take 1, (["word"] : List Str).zip (pickL [0] (us.drop 1))⟩) (fun fd us h hd hl => by
    obtain ⟨⟩ := fd
    cases h
    cases hd
    exact match us, hl with | [_, _], _ => rfl) (l := (["word"] : List Str).map fun p => (p, p)) F2 PySem.F.store_ValueError (SMk M) FN_InvalidCommand ss_InvalidCommand TX_InvalidCommand xD_InvalidCommand po_InvalidCommand xm_InvalidCommand_InvalidCommand xu_InvalidCommand_InvalidCommand xg_WayError xh_WayError rfl (fun env => ⟨rfl, rfl, ⟨_, rfl⟩⟩) (r0 := fun _ => V.str "InvalidCommand") (fun env vof h => ZX.Rd1.txt) (fun v1 v2 h => rfl) (fun env h => .cons rfl (by show env.scope.names.lookup _ = _; rw [h]; rfl) rfl (.nil)) (fun fp hm => by
    simp only [List.map_cons, List.map_nil, List.mem_cons, List.not_mem_nil, or_false] at hm
    subst hm; exact ⟨xa_InvalidCommand_word, by simp⟩) (by simp) (fun vs fs h => by unfold ZX.G1 at h; split at h <;> cases h; simp)
  exact F1.cast (fun vs => ZX.own_eq (by decide) vs)
theorem xm_X_InvalidPage {l : PySem.W.OpenLaw} {w : World} {K : PySem.W.Frag} {h : Heap} {mg : Str → Option Value} {base : Heap}
    {ai_WayError : Addr} {ai_InvalidPage : Addr} {C_WayError : Addr} {C_InvalidPage : Addr}
    (X : K.In h) (G : h.Ns mainGlobals mg)
    (h_InvalidPage : PySem.W.nsIn K mainGlobals "InvalidPage" = some (some (.ref C_InvalidPage)))
    (FN_WayError : ZX.SupFn l.prog K ai_WayError C_WayError "WayError.__init__" (defArgs s_WayError___init__) (defBody s_WayError___init__) (defScope s_WayError___init__))
    (FN_InvalidPage : ZX.SupFn l.prog K ai_InvalidPage C_InvalidPage "InvalidPage.__init__" (defArgs s_InvalidPage___init__) (defBody s_InvalidPage___init__) (defScope s_InvalidPage___init__))
    (xb_InvalidPage : xh2B K C_InvalidPage C_WayError ai_InvalidPage ai_WayError [.type "ValueError", .type "Exception", .type "BaseException", .type "object"] "ValueError" "ValueError.__new__" "ValueError.__init__" (.ref ai_WayError) ["tag", "line"] = true)
    (b_super : PySem.W.nsIn K mainGlobals "super" = some none)
    (tp_any : PySem.W.nsIn K cStatics "thirdparty.any" = some none)
    (top_super : (l.prog.main.scope.names.lookup ("super" : Str)).isSome = false)
    : XMk l.prog w K mg base "InvalidPage" C_InvalidPage 2 "InvalidPage" ["line"] := by
  have SMk : L2.Mod K mg base → ZX.SupM l.prog K mg base := fun M => ⟨M, PySem.W.mg_none_of X G b_super, top_super, tp_any⟩
  obtain ⟨kc_InvalidPage, xi_InvalidPage, xo_InvalidPage, xk_InvalidPage, xs_InvalidPage, xD_InvalidPage, xI_InvalidPage, xt_InvalidPage, xB_InvalidPage, xR_InvalidPage, xT_InvalidPage, xm_InvalidPage_InvalidPage, xu_InvalidPage_InvalidPage, xm_InvalidPage_WayError, xu_InvalidPage_WayError, xg_WayError, xh_WayError, _, _⟩ := xh2_ok xb_InvalidPage
  have xa_InvalidPage_tag : PySem.W.findIn K (.ref C_InvalidPage) "tag" = some none := (xh2_ok xb_InvalidPage).at_ (by decide +kernel)
  have xa_InvalidPage_line : PySem.W.findIn K (.ref C_InvalidPage) "line" = some none := (xh2_ok xb_InvalidPage).at_ (by decide +kernel)
  have TX_InvalidPage : ZX.ExC K C_InvalidPage [.type "ValueError", .type "Exception", .type "BaseException", .type "object"] "ValueError.__new__" := ⟨xi_InvalidPage, xo_InvalidPage, xk_InvalidPage, xs_InvalidPage⟩
  refine ⟨PySem.W.mg_of X G h_InvalidPage, kc_InvalidPage, fun M => ⟨"ValueError", "ValueError.__new__", "ValueError.__init__", _, ai_InvalidPage, PySem.F.excBase_ValueError, xi_InvalidPage, xI_InvalidPage, xt_InvalidPage, ?_⟩, xB_InvalidPage, xT_InvalidPage⟩
  have F2 : ZX.InitOk l.prog w base 1 ai_WayError C_InvalidPage ZX.G1 := ZX.initBase PySem.W.kxs_ValueError PySem.F.excBase_ValueError PySem.F.store_ValueError (SMk M) FN_WayError ss_WayError TX_InvalidPage xD_InvalidPage po_WayError xm_InvalidPage_WayError xu_InvalidPage_WayError xR_InvalidPage xa_InvalidPage_tag rfl (fun env => ⟨rfl, rfl, ⟨_, rfl⟩⟩) (fun env => rfl) (r0 := (fun v => v "tag")) (r1 := (fun v => v "tag")) (fun env vof h => ZX.Rd1.par (by show env.scope.names.lookup _ = _; rw [h]; rfl) rfl) (fun env vof h => ZX.Rd1.par (by show env.scope.names.lookup _ = _; rw [h]; rfl) rfl) (fun v1 v2 h => h "tag" (by simp))
  have F1 := ZX.initOwn (l := (["line"] : List Str).map fun p => (p, p)) F2 PySem.F.store_ValueError (SMk M) FN_InvalidPage ss_InvalidPage TX_InvalidPage xD_InvalidPage po_InvalidPage xm_InvalidPage_InvalidPage xu_InvalidPage_InvalidPage xg_WayError xh_WayError rfl (fun env => ⟨rfl, rfl, ⟨_, rfl⟩⟩) (r0 := fun _ => V.str "InvalidPage") (fun env vof h => ZX.Rd1.txt) (fun v1 v2 h => rfl) (fun env h => .cons rfl (by show env.scope.names.lookup _ = _; rw [h]; rfl) rfl (.nil)) (fun fp hm => by
    simp only [List.map_cons, List.map_nil, List.mem_cons, List.not_mem_nil, or_false] at hm
    subst hm; exact ⟨xa_InvalidPage_line, by simp⟩) (by simp) (fun vs fs h => by unfold ZX.G1 at h; split at h <;> cases h; simp)
  exact F1.cast (fun vs => ZX.own_eq (by decide) vs)
theorem xm_XK_InvalidPage_0 {l : PySem.W.OpenLaw} {w : World} {K : PySem.W.Frag} {h : Heap} {mg : Str → Option Value} {base : Heap}
    {ai_WayError : Addr} {ai_InvalidPage : Addr} {C_WayError : Addr} {C_InvalidPage : Addr}
    (X : K.In h) (G : h.Ns mainGlobals mg) (X_InvalidPage : XMk l.prog w K mg base "InvalidPage" C_InvalidPage 2 "InvalidPage" ["line"])
    (FN_WayError : ZX.SupFn l.prog K ai_WayError C_WayError "WayError.__init__" (defArgs s_WayError___init__) (defBody s_WayError___init__) (defScope s_WayError___init__))
    (FN_InvalidPage : ZX.SupFn l.prog K ai_InvalidPage C_InvalidPage "InvalidPage.__init__" (defArgs s_InvalidPage___init__) (defBody s_InvalidPage___init__) (defScope s_InvalidPage___init__))
    (xb_InvalidPage : xh2B K C_InvalidPage C_WayError ai_InvalidPage ai_WayError [.type "ValueError", .type "Exception", .type "BaseException", .type "object"] "ValueError" "ValueError.__new__" "ValueError.__init__" (.ref ai_WayError) ["tag", "line"] = true)
    (b_super : PySem.W.nsIn K mainGlobals "super" = some none)
    (tp_any : PySem.W.nsIn K cStatics "thirdparty.any" = some none)
    (top_super : (l.prog.main.scope.names.lookup ("super" : Str)).isSome = false)
    : XMkK l.prog w K mg base "InvalidPage" C_InvalidPage 2 "InvalidPage" ["line"] ["line"] [0] [0] := by
  have SMk : L2.Mod K mg base → ZX.SupM l.prog K mg base := fun M => ⟨M, PySem.W.mg_none_of X G b_super, top_super, tp_any⟩
  obtain ⟨kc_InvalidPage, xi_InvalidPage, xo_InvalidPage, xk_InvalidPage, xs_InvalidPage, xD_InvalidPage, xI_InvalidPage, xt_InvalidPage, xB_InvalidPage, xR_InvalidPage, xT_InvalidPage, xm_InvalidPage_InvalidPage, xu_InvalidPage_InvalidPage, xm_InvalidPage_WayError, xu_InvalidPage_WayError, xg_WayError, xh_WayError, _, _⟩ := xh2_ok xb_InvalidPage
  have xa_InvalidPage_tag : PySem.W.findIn K (.ref C_InvalidPage) "tag" = some none := (xh2_ok xb_InvalidPage).at_ (by decide +kernel)
  have xa_InvalidPage_line : PySem.W.findIn K (.ref C_InvalidPage) "line" = some none := (xh2_ok xb_InvalidPage).at_ (by decide +kernel)
  have TX_InvalidPage : ZX.ExC K C_InvalidPage [.type "ValueError", .type "Exception", .type "BaseException", .type "object"] "ValueError.__new__" := ⟨xi_InvalidPage, xo_InvalidPage, xk_InvalidPage, xs_InvalidPage⟩
  refine ⟨X_InvalidPage, fun M => ⟨"ValueError", "ValueError.__new__", "ValueError.__init__", _, ai_InvalidPage, PySem.F.excBase_ValueError, xi_InvalidPage, xI_InvalidPage, xt_InvalidPage, ?_⟩, fun ws h => match ws, h with | [_], _ => rfl, fun ws h => match ws, h with | [_], _ => rfl⟩
  have F2 : ZX.InitOk l.prog w base 1 ai_WayError C_InvalidPage ZX.G1 := ZX.initBase PySem.W.kxs_ValueError PySem.F.excBase_ValueError PySem.F.store_ValueError (SMk M) FN_WayError ss_WayError TX_InvalidPage xD_InvalidPage po_WayError xm_InvalidPage_WayError xu_InvalidPage_WayError xR_InvalidPage xa_InvalidPage_tag rfl (fun env => ⟨rfl, rfl, ⟨_, rfl⟩⟩) (fun env => rfl) (r0 := (fun v => v "tag")) (r1 := (fun v => v "tag")) (fun env vof h => ZX.Rd1.par (by show env.scope.names.lookup _ = _; rw [h]; rfl) rfl) (fun env vof h => ZX.Rd1.par (by show env.scope.names.lookup _ = _; rw [h]; rfl) rfl) (fun v1 v2 h => h "tag" (by simp))
  have F1 := ZX.initOwnA (mk := fun us => ⟨us.take 1, (["line"] : List Str).zip (pickL [0] (us.drop 1))⟩) (fun fd us h hd hl => by
    obtain ⟨⟩ := fd
    cases h
    cases hd
    exact match us, hl with | [_, _], _ => rfl) (l := (["line"] : List Str).map fun p => (p, p)) F2 PySem.F.store_ValueError (SMk M) FN_InvalidPage ss_InvalidPage TX_InvalidPage xD_InvalidPage po_InvalidPage xm_InvalidPage_InvalidPage xu_InvalidPage_InvalidPage xg_WayError xh_WayError rfl (fun env => ⟨rfl, rfl, ⟨_, rfl⟩⟩) (r0 := fun _ => V.str "InvalidPage") (fun env vof h => ZX.Rd1.txt) (fun v1 v2 h => rfl) (fun env h => .cons rfl (by show env.scope.names.lookup _ = _; rw [h]; rfl) rfl (.nil)) (fun fp hm => by
    simp only [List.map_cons, List.map_nil, List.mem_cons, List.not_mem_nil, or_false] at hm
    subst hm; exact ⟨xa_InvalidPage_line, by simp⟩) (by simp) (fun vs fs h => by unfold ZX.G1 at h; split at h <;> cases h; simp)
  exact F1.cast (fun vs => ZX.own_eq (by decide) vs)
theorem xm_X_UnknownName {l : PySem.W.OpenLaw} {w : World} {K : PySem.W.Frag} {h : Heap} {mg : Str → Option Value} {base : Heap}
    {ai_UnknownName : Addr} {ai_Missing : Addr} {C_Missing : Addr} {C_UnknownName : Addr}
    (X : K.In h) (G : h.Ns mainGlobals mg)
    (h_UnknownName : PySem.W.nsIn K mainGlobals "UnknownName" = some (some (.ref C_UnknownName)))
    (FN_UnknownName : ZX.SupFn l.prog K ai_UnknownName C_UnknownName "UnknownName.__init__" (defArgs s_UnknownName___init__) (defBody s_UnknownName___init__) (defScope s_UnknownName___init__))
    (FN_Missing : ZX.SupFn l.prog K ai_Missing C_Missing "Missing.__init__" (defArgs s_Missing___init__) (defBody s_Missing___init__) (defScope s_Missing___init__))
    (xb_UnknownName : xh2B K C_UnknownName C_Missing ai_UnknownName ai_Missing [.type "LookupError", .type "Exception", .type "BaseException", .type "object"] "LookupError" "LookupError.__new__" "LookupError.__init__" (.ref ai_Missing) ["tag", "name"] = true)
    (b_super : PySem.W.nsIn K mainGlobals "super" = some none)
    (tp_any : PySem.W.nsIn K cStatics "thirdparty.any" = some none)
    (top_super : (l.prog.main.scope.names.lookup ("super" : Str)).isSome = false)
    : XMk l.prog w K mg base "UnknownName" C_UnknownName 2 "UnknownName" ["name"] := by
  have SMk : L2.Mod K mg base → ZX.SupM l.prog K mg base := fun M => ⟨M, PySem.W.mg_none_of X G b_super, top_super, tp_any⟩
  obtain ⟨kc_UnknownName, xi_UnknownName, xo_UnknownName, xk_UnknownName, xs_UnknownName, xD_UnknownName, xI_UnknownName, xt_UnknownName, xB_UnknownName, xR_UnknownName, xT_UnknownName, xm_UnknownName_UnknownName, xu_UnknownName_UnknownName, xm_UnknownName_Missing, xu_UnknownName_Missing, xg_Missing, xh_Missing, _, _⟩ := xh2_ok xb_UnknownName
  have xa_UnknownName_tag : PySem.W.findIn K (.ref C_UnknownName) "tag" = some none := (xh2_ok xb_UnknownName).at_ (by decide +kernel)
  have xa_UnknownName_name : PySem.W.findIn K (.ref C_UnknownName) "name" = some none := (xh2_ok xb_UnknownName).at_ (by decide +kernel)
  have TX_UnknownName : ZX.ExC K C_UnknownName [.type "LookupError", .type "Exception", .type "BaseException", .type "object"] "LookupError.__new__" := ⟨xi_UnknownName, xo_UnknownName, xk_UnknownName, xs_UnknownName⟩
  refine ⟨PySem.W.mg_of X G h_UnknownName, kc_UnknownName, fun M => ⟨"LookupError", "LookupError.__new__", "LookupError.__init__", _, ai_UnknownName, PySem.F.excBase_LookupError, xi_UnknownName, xI_UnknownName, xt_UnknownName, ?_⟩, xB_UnknownName, xT_UnknownName⟩
  have F2 : ZX.InitOk l.prog w base 1 ai_Missing C_UnknownName ZX.G1 := ZX.initBase PySem.W.kxs_LookupError PySem.F.excBase_LookupError PySem.F.store_LookupError (SMk M) FN_Missing ss_Missing TX_UnknownName xD_UnknownName po_Missing xm_UnknownName_Missing xu_UnknownName_Missing xR_UnknownName xa_UnknownName_tag rfl (fun env => ⟨rfl, rfl, ⟨_, rfl⟩⟩) (fun env => rfl) (r0 := (fun v => v "tag")) (r1 := (fun v => v "tag")) (fun env vof h => ZX.Rd1.par (by show env.scope.names.lookup _ = _; rw [h]; rfl) rfl) (fun env vof h => ZX.Rd1.par (by show env.scope.names.lookup _ = _; rw [h]; rfl) rfl) (fun v1 v2 h => h "tag" (by simp))
  have F1 := ZX.initOwn (l := (["name"] : List Str).map fun p => (p, p)) F2 PySem.F.store_LookupError (SMk M) FN_UnknownName ss_UnknownName TX_UnknownName xD_UnknownName po_UnknownName xm_UnknownName_UnknownName xu_UnknownName_UnknownName xg_Missing xh_Missing rfl (fun env => ⟨rfl, rfl, ⟨_, rfl⟩⟩) (r0 := fun _ => V.str "UnknownName") (fun env vof h => ZX.Rd1.txt) (fun v1 v2 h => rfl) (fun env h => .cons rfl (by show env.scope.names.lookup _ = _; rw [h]; rfl) rfl (.nil)) (fun fp hm => by
    simp only [List.map_cons, List.map_nil, List.mem_cons, List.not_mem_nil, or_false] at hm
    subst hm; exact ⟨xa_UnknownName_name, by simp⟩) (by simp) (fun vs fs h => by unfold ZX.G1 at h; split at h <;> cases h; simp)
  exact F1.cast (fun vs => ZX.own_eq (by decide) vs)
theorem xm_X_NothingLeft {l : PySem.W.OpenLaw} {w : World} {K : PySem.W.Frag} {h : Heap} {mg : Str → Option Value} {base : Heap}
    {ai_NothingLeft : Addr} {C_NothingLeft : Addr}
    (X : K.In h) (G : h.Ns mainGlobals mg)
    (h_NothingLeft : PySem.W.nsIn K mainGlobals "NothingLeft" = some (some (.ref C_NothingLeft)))
    (FN_NothingLeft : ZX.SupFn l.prog K ai_NothingLeft C_NothingLeft "NothingLeft.__init__" (defArgs s_NothingLeft___init__) (defBody s_NothingLeft___init__) (defScope s_NothingLeft___init__))
    (xb_NothingLeft : xh2B K C_NothingLeft C_NothingLeft ai_NothingLeft ai_NothingLeft [.type "IndexError", .type "LookupError", .type "Exception", .type "BaseException", .type "object"] "IndexError" "IndexError.__new__" "IndexError.__init__" (.builtin "IndexError.__init__") ["tag"] = true)
    (b_super : PySem.W.nsIn K mainGlobals "super" = some none)
    (tp_any : PySem.W.nsIn K cStatics "thirdparty.any" = some none)
    (top_super : (l.prog.main.scope.names.lookup ("super" : Str)).isSome = false)
    : XMk l.prog w K mg base "NothingLeft" C_NothingLeft 2 "NothingLeft" [] := by
  have SMk : L2.Mod K mg base → ZX.SupM l.prog K mg base := fun M => ⟨M, PySem.W.mg_none_of X G b_super, top_super, tp_any⟩
  obtain ⟨kc_NothingLeft, xi_NothingLeft, xo_NothingLeft, xk_NothingLeft, xs_NothingLeft, xD_NothingLeft, xI_NothingLeft, xt_NothingLeft, xB_NothingLeft, xR_NothingLeft, xT_NothingLeft, xm_NothingLeft_NothingLeft, xu_NothingLeft_NothingLeft, _, _, xg_NothingLeft, xh_NothingLeft, _, _⟩ := xh2_ok xb_NothingLeft
  have xa_NothingLeft_tag : PySem.W.findIn K (.ref C_NothingLeft) "tag" = some none := (xh2_ok xb_NothingLeft).at_ (by decide +kernel)
  have TX_NothingLeft : ZX.ExC K C_NothingLeft [.type "IndexError", .type "LookupError", .type "Exception", .type "BaseException", .type "object"] "IndexError.__new__" := ⟨xi_NothingLeft, xo_NothingLeft, xk_NothingLeft, xs_NothingLeft⟩
  exact ⟨PySem.W.mg_of X G h_NothingLeft, kc_NothingLeft, fun M => ⟨"IndexError", "IndexError.__new__", "IndexError.__init__", _, ai_NothingLeft, PySem.F.excBase_IndexError, xi_NothingLeft, xI_NothingLeft, xt_NothingLeft, (ZX.InitOk.cast (ZX.initBase PySem.W.kxs_IndexError PySem.F.excBase_IndexError PySem.F.store_IndexError (SMk M) FN_NothingLeft ss_NothingLeft TX_NothingLeft xD_NothingLeft po_NothingLeft xm_NothingLeft_NothingLeft xu_NothingLeft_NothingLeft xR_NothingLeft xa_NothingLeft_tag rfl (fun env => ⟨rfl, rfl, ⟨_, rfl⟩⟩) (fun env => rfl) (r0 := (fun _ => V.str "NothingLeft")) (r1 := (fun _ => V.str "NothingLeft")) (fun env vof h => ZX.Rd1.txt) (fun env vof h => ZX.Rd1.txt) (fun v1 v2 h => rfl)) (fun vs => rfl)).mono (by decide)⟩, xB_NothingLeft, xT_NothingLeft⟩
theorem all_mk {l : PySem.W.OpenLaw} {w : World} {K : PySem.W.Frag} {h : Heap} {mg : Str → Option Value} {fa a__law_all a__law_bag a__law_field a__law_flags a__law_pick a__law_of a__law_same a_law C_WayError C_Missing C_InvalidRatio C_InvalidWorld C_InvalidElement C_InvalidText C_InvalidProgram C_InvalidPlan C_EmptyLoop C_InvalidStep C_InvalidReader C_WorldsDiffer C_TooMany C_InvalidName C_WrongKind C_CircularName C_InUse C_Breaks C_CapacityExceeded C_InvalidLimit C_InvalidCommand C_InvalidPage C_UnknownName C_NothingLeft : Addr} (law_ok : ∀ ns : List Int, ns.length ≤ 63 → ∃ S, defS 11 m_law [.scr ns] [] = .ok (.bl true) S) (X : K.In h) (G : h.Ns mainGlobals mg) (hfa : mg "law" = some (.ref fa))
    {od__law_all an__law_all : Option Addr} {sl__law_all : Array (Option Value)} {oc__law_all kV__law_all dc__law_all pm__law_all cd__law_all ct__law_all : Value}
    {od__law_bag an__law_bag : Option Addr} {sl__law_bag : Array (Option Value)} {oc__law_bag kV__law_bag dc__law_bag pm__law_bag cd__law_bag ct__law_bag : Value}
    {od__law_field an__law_field : Option Addr} {sl__law_field : Array (Option Value)} {oc__law_field kV__law_field dc__law_field pm__law_field cd__law_field ct__law_field : Value}
    {od__law_flags an__law_flags : Option Addr} {sl__law_flags : Array (Option Value)} {oc__law_flags kV__law_flags dc__law_flags pm__law_flags cd__law_flags ct__law_flags : Value}
    {od__law_pick an__law_pick : Option Addr} {sl__law_pick : Array (Option Value)} {oc__law_pick kV__law_pick dc__law_pick pm__law_pick cd__law_pick ct__law_pick : Value}
    {od__law_of an__law_of : Option Addr} {sl__law_of : Array (Option Value)} {oc__law_of kV__law_of dc__law_of pm__law_of cd__law_of ct__law_of : Value}
    {od__law_same an__law_same : Option Addr} {sl__law_same : Array (Option Value)} {oc__law_same kV__law_same dc__law_same pm__law_same cd__law_same ct__law_same : Value}
    {od_law an_law : Option Addr} {sl_law : Array (Option Value)} {oc_law kV_law dc_law pm_law cd_law ct_law : Value}
    {ai_InvalidRatio : Addr}
    {ai_WayError : Addr}
    {ai_InvalidWorld : Addr}
    {ai_InvalidElement : Addr}
    {ai_InvalidText : Addr}
    {ai_InvalidProgram : Addr}
    {ai_InvalidPlan : Addr}
    {ai_EmptyLoop : Addr}
    {ai_InvalidStep : Addr}
    {ai_InvalidReader : Addr}
    {ai_WorldsDiffer : Addr}
    {ai_TooMany : Addr}
    {ai_InvalidName : Addr}
    {ai_WrongKind : Addr}
    {ai_CircularName : Addr}
    {ai_InUse : Addr}
    {ai_Breaks : Addr}
    {ai_CapacityExceeded : Addr}
    {ai_InvalidLimit : Addr}
    {ai_InvalidCommand : Addr}
    {ai_InvalidPage : Addr}
    {ai_UnknownName : Addr}
    {ai_Missing : Addr}
    {ai_NothingLeft : Addr}
    (h__law_all : PySem.W.nsIn K mainGlobals "_law_all" = some (some (.ref a__law_all)))
    (l__law_all : K.lookup a__law_all = some ⟨oc__law_all, od__law_all, .func (PySem.W.fnOf "_law_all" "_law_all" (defArgs s__law_all) (defBody s__law_all) (defScope s__law_all) .none kV__law_all dc__law_all pm__law_all an__law_all cd__law_all ct__law_all), sl__law_all⟩)
    (c__law_all : PySem.W.codeIn K cd__law_all "_law_all" = true)
    (k__law_all : PySem.W.keepIn K (.ref a__law_all) = true)
    (h__law_bag : PySem.W.nsIn K mainGlobals "_law_bag" = some (some (.ref a__law_bag)))
    (l__law_bag : K.lookup a__law_bag = some ⟨oc__law_bag, od__law_bag, .func (PySem.W.fnOf "_law_bag" "_law_bag" (defArgs s__law_bag) (defBody s__law_bag) (defScope s__law_bag) .none kV__law_bag dc__law_bag pm__law_bag an__law_bag cd__law_bag ct__law_bag), sl__law_bag⟩)
    (c__law_bag : PySem.W.codeIn K cd__law_bag "_law_bag" = true)
    (k__law_bag : PySem.W.keepIn K (.ref a__law_bag) = true)
    (h__law_field : PySem.W.nsIn K mainGlobals "_law_field" = some (some (.ref a__law_field)))
    (l__law_field : K.lookup a__law_field = some ⟨oc__law_field, od__law_field, .func (PySem.W.fnOf "_law_field" "_law_field" (defArgs s__law_field) (defBody s__law_field) (defScope s__law_field) .none kV__law_field dc__law_field pm__law_field an__law_field cd__law_field ct__law_field), sl__law_field⟩)
    (c__law_field : PySem.W.codeIn K cd__law_field "_law_field" = true)
    (k__law_field : PySem.W.keepIn K (.ref a__law_field) = true)
    (h__law_flags : PySem.W.nsIn K mainGlobals "_law_flags" = some (some (.ref a__law_flags)))
    (l__law_flags : K.lookup a__law_flags = some ⟨oc__law_flags, od__law_flags, .func (PySem.W.fnOf "_law_flags" "_law_flags" (defArgs s__law_flags) (defBody s__law_flags) (defScope s__law_flags) .none kV__law_flags dc__law_flags pm__law_flags an__law_flags cd__law_flags ct__law_flags), sl__law_flags⟩)
    (c__law_flags : PySem.W.codeIn K cd__law_flags "_law_flags" = true)
    (k__law_flags : PySem.W.keepIn K (.ref a__law_flags) = true)
    (h__law_pick : PySem.W.nsIn K mainGlobals "_law_pick" = some (some (.ref a__law_pick)))
    (l__law_pick : K.lookup a__law_pick = some ⟨oc__law_pick, od__law_pick, .func (PySem.W.fnOf "_law_pick" "_law_pick" (defArgs s__law_pick) (defBody s__law_pick) (defScope s__law_pick) .none kV__law_pick dc__law_pick pm__law_pick an__law_pick cd__law_pick ct__law_pick), sl__law_pick⟩)
    (c__law_pick : PySem.W.codeIn K cd__law_pick "_law_pick" = true)
    (k__law_pick : PySem.W.keepIn K (.ref a__law_pick) = true)
    (h__law_of : PySem.W.nsIn K mainGlobals "_law_of" = some (some (.ref a__law_of)))
    (l__law_of : K.lookup a__law_of = some ⟨oc__law_of, od__law_of, .func (PySem.W.fnOf "_law_of" "_law_of" (defArgs s__law_of) (defBody s__law_of) (defScope s__law_of) .none kV__law_of dc__law_of pm__law_of an__law_of cd__law_of ct__law_of), sl__law_of⟩)
    (c__law_of : PySem.W.codeIn K cd__law_of "_law_of" = true)
    (k__law_of : PySem.W.keepIn K (.ref a__law_of) = true)
    (h__law_same : PySem.W.nsIn K mainGlobals "_law_same" = some (some (.ref a__law_same)))
    (l__law_same : K.lookup a__law_same = some ⟨oc__law_same, od__law_same, .func (PySem.W.fnOf "_law_same" "_law_same" (defArgs s__law_same) (defBody s__law_same) (defScope s__law_same) .none kV__law_same dc__law_same pm__law_same an__law_same cd__law_same ct__law_same), sl__law_same⟩)
    (c__law_same : PySem.W.codeIn K cd__law_same "_law_same" = true)
    (k__law_same : PySem.W.keepIn K (.ref a__law_same) = true)
    (h_law : PySem.W.nsIn K mainGlobals "law" = some (some (.ref a_law)))
    (l_law : K.lookup a_law = some ⟨oc_law, od_law, .func (PySem.W.fnOf "law" "law" (defArgs s_law) (defBody s_law) (defScope s_law) .none kV_law dc_law pm_law an_law cd_law ct_law), sl_law⟩)
    (c_law : PySem.W.codeIn K cd_law "law" = true)
    (k_law : PySem.W.keepIn K (.ref a_law) = true)
    (h_WayError : PySem.W.nsIn K mainGlobals "WayError" = some (some (.ref C_WayError)))
    (h_Missing : PySem.W.nsIn K mainGlobals "Missing" = some (some (.ref C_Missing)))
    (h_InvalidRatio : PySem.W.nsIn K mainGlobals "InvalidRatio" = some (some (.ref C_InvalidRatio)))
    (h_InvalidWorld : PySem.W.nsIn K mainGlobals "InvalidWorld" = some (some (.ref C_InvalidWorld)))
    (h_InvalidElement : PySem.W.nsIn K mainGlobals "InvalidElement" = some (some (.ref C_InvalidElement)))
    (h_InvalidText : PySem.W.nsIn K mainGlobals "InvalidText" = some (some (.ref C_InvalidText)))
    (h_InvalidProgram : PySem.W.nsIn K mainGlobals "InvalidProgram" = some (some (.ref C_InvalidProgram)))
    (h_InvalidPlan : PySem.W.nsIn K mainGlobals "InvalidPlan" = some (some (.ref C_InvalidPlan)))
    (h_EmptyLoop : PySem.W.nsIn K mainGlobals "EmptyLoop" = some (some (.ref C_EmptyLoop)))
    (h_InvalidStep : PySem.W.nsIn K mainGlobals "InvalidStep" = some (some (.ref C_InvalidStep)))
    (h_InvalidReader : PySem.W.nsIn K mainGlobals "InvalidReader" = some (some (.ref C_InvalidReader)))
    (h_WorldsDiffer : PySem.W.nsIn K mainGlobals "WorldsDiffer" = some (some (.ref C_WorldsDiffer)))
    (h_TooMany : PySem.W.nsIn K mainGlobals "TooMany" = some (some (.ref C_TooMany)))
    (h_InvalidName : PySem.W.nsIn K mainGlobals "InvalidName" = some (some (.ref C_InvalidName)))
    (h_WrongKind : PySem.W.nsIn K mainGlobals "WrongKind" = some (some (.ref C_WrongKind)))
    (h_CircularName : PySem.W.nsIn K mainGlobals "CircularName" = some (some (.ref C_CircularName)))
    (h_InUse : PySem.W.nsIn K mainGlobals "InUse" = some (some (.ref C_InUse)))
    (h_Breaks : PySem.W.nsIn K mainGlobals "Breaks" = some (some (.ref C_Breaks)))
    (h_CapacityExceeded : PySem.W.nsIn K mainGlobals "CapacityExceeded" = some (some (.ref C_CapacityExceeded)))
    (h_InvalidLimit : PySem.W.nsIn K mainGlobals "InvalidLimit" = some (some (.ref C_InvalidLimit)))
    (h_InvalidCommand : PySem.W.nsIn K mainGlobals "InvalidCommand" = some (some (.ref C_InvalidCommand)))
    (h_InvalidPage : PySem.W.nsIn K mainGlobals "InvalidPage" = some (some (.ref C_InvalidPage)))
    (h_UnknownName : PySem.W.nsIn K mainGlobals "UnknownName" = some (some (.ref C_UnknownName)))
    (h_NothingLeft : PySem.W.nsIn K mainGlobals "NothingLeft" = some (some (.ref C_NothingLeft)))
    (kx_Breaks : kxB K (.ref C_Breaks) [(C_InvalidRatio, false), (C_InvalidWorld, false), (C_InvalidElement, false), (C_InvalidText, false), (C_InvalidProgram, false), (C_InvalidPlan, false), (C_EmptyLoop, false), (C_InvalidStep, false), (C_InvalidReader, false), (C_WorldsDiffer, false), (C_TooMany, false), (C_InvalidName, false), (C_WrongKind, false), (C_CircularName, false), (C_InUse, false), (C_Breaks, true), (C_CapacityExceeded, false), (C_InvalidLimit, false), (C_InvalidCommand, false), (C_InvalidPage, false), (C_UnknownName, false), (C_NothingLeft, false)] = true)
    (kx_CapacityExceeded : kxB K (.ref C_CapacityExceeded) [(C_InvalidRatio, false), (C_InvalidWorld, false), (C_InvalidElement, false), (C_InvalidText, false), (C_InvalidProgram, false), (C_InvalidPlan, false), (C_EmptyLoop, false), (C_InvalidStep, false), (C_InvalidReader, false), (C_WorldsDiffer, false), (C_TooMany, false), (C_InvalidName, false), (C_WrongKind, false), (C_CircularName, false), (C_InUse, false), (C_Breaks, false), (C_CapacityExceeded, true), (C_InvalidLimit, false), (C_InvalidCommand, false), (C_InvalidPage, false), (C_UnknownName, false), (C_NothingLeft, false)] = true)
    (kx_CircularName : kxB K (.ref C_CircularName) [(C_InvalidRatio, false), (C_InvalidWorld, false), (C_InvalidElement, false), (C_InvalidText, false), (C_InvalidProgram, false), (C_InvalidPlan, false), (C_EmptyLoop, false), (C_InvalidStep, false), (C_InvalidReader, false), (C_WorldsDiffer, false), (C_TooMany, false), (C_InvalidName, false), (C_WrongKind, false), (C_CircularName, true), (C_InUse, false), (C_Breaks, false), (C_CapacityExceeded, false), (C_InvalidLimit, false), (C_InvalidCommand, false), (C_InvalidPage, false), (C_UnknownName, false), (C_NothingLeft, false)] = true)
    (kx_EmptyLoop : kxB K (.ref C_EmptyLoop) [(C_InvalidRatio, false), (C_InvalidWorld, false), (C_InvalidElement, false), (C_InvalidText, false), (C_InvalidProgram, false), (C_InvalidPlan, false), (C_EmptyLoop, true), (C_InvalidStep, false), (C_InvalidReader, false), (C_WorldsDiffer, false), (C_TooMany, false), (C_InvalidName, false), (C_WrongKind, false), (C_CircularName, false), (C_InUse, false), (C_Breaks, false), (C_CapacityExceeded, false), (C_InvalidLimit, false), (C_InvalidCommand, false), (C_InvalidPage, false), (C_UnknownName, false), (C_NothingLeft, false)] = true)
    (kx_InUse : kxB K (.ref C_InUse) [(C_InvalidRatio, false), (C_InvalidWorld, false), (C_InvalidElement, false), (C_InvalidText, false), (C_InvalidProgram, false), (C_InvalidPlan, false), (C_EmptyLoop, false), (C_InvalidStep, false), (C_InvalidReader, false), (C_WorldsDiffer, false), (C_TooMany, false), (C_InvalidName, false), (C_WrongKind, false), (C_CircularName, false), (C_InUse, true), (C_Breaks, false), (C_CapacityExceeded, false), (C_InvalidLimit, false), (C_InvalidCommand, false), (C_InvalidPage, false), (C_UnknownName, false), (C_NothingLeft, false)] = true)
    (kx_IndexError : kxB K (.type "IndexError") [(C_InvalidRatio, false), (C_InvalidWorld, false), (C_InvalidElement, false), (C_InvalidText, false), (C_InvalidProgram, false), (C_InvalidPlan, false), (C_EmptyLoop, false), (C_InvalidStep, false), (C_InvalidReader, false), (C_WorldsDiffer, false), (C_TooMany, false), (C_InvalidName, false), (C_WrongKind, false), (C_CircularName, false), (C_InUse, false), (C_Breaks, false), (C_CapacityExceeded, false), (C_InvalidLimit, false), (C_InvalidCommand, false), (C_InvalidPage, false), (C_UnknownName, false), (C_NothingLeft, true)] = true)
    (kx_InvalidCommand : kxB K (.ref C_InvalidCommand) [(C_InvalidRatio, false), (C_InvalidWorld, false), (C_InvalidElement, false), (C_InvalidText, false), (C_InvalidProgram, false), (C_InvalidPlan, false), (C_EmptyLoop, false), (C_InvalidStep, false), (C_InvalidReader, false), (C_WorldsDiffer, false), (C_TooMany, false), (C_InvalidName, false), (C_WrongKind, false), (C_CircularName, false), (C_InUse, false), (C_Breaks, false), (C_CapacityExceeded, false), (C_InvalidLimit, false), (C_InvalidCommand, true), (C_InvalidPage, false), (C_UnknownName, false), (C_NothingLeft, false)] = true)
    (kx_InvalidElement : kxB K (.ref C_InvalidElement) [(C_InvalidRatio, false), (C_InvalidWorld, false), (C_InvalidElement, true), (C_InvalidText, false), (C_InvalidProgram, false), (C_InvalidPlan, false), (C_EmptyLoop, false), (C_InvalidStep, false), (C_InvalidReader, false), (C_WorldsDiffer, false), (C_TooMany, false), (C_InvalidName, false), (C_WrongKind, false), (C_CircularName, false), (C_InUse, false), (C_Breaks, false), (C_CapacityExceeded, false), (C_InvalidLimit, false), (C_InvalidCommand, false), (C_InvalidPage, false), (C_UnknownName, false), (C_NothingLeft, false)] = true)
    (kx_InvalidLimit : kxB K (.ref C_InvalidLimit) [(C_InvalidRatio, false), (C_InvalidWorld, false), (C_InvalidElement, false), (C_InvalidText, false), (C_InvalidProgram, false), (C_InvalidPlan, false), (C_EmptyLoop, false), (C_InvalidStep, false), (C_InvalidReader, false), (C_WorldsDiffer, false), (C_TooMany, false), (C_InvalidName, false), (C_WrongKind, false), (C_CircularName, false), (C_InUse, false), (C_Breaks, false), (C_CapacityExceeded, false), (C_InvalidLimit, true), (C_InvalidCommand, false), (C_InvalidPage, false), (C_UnknownName, false), (C_NothingLeft, false)] = true)
    (kx_InvalidName : kxB K (.ref C_InvalidName) [(C_InvalidRatio, false), (C_InvalidWorld, false), (C_InvalidElement, false), (C_InvalidText, false), (C_InvalidProgram, false), (C_InvalidPlan, false), (C_EmptyLoop, false), (C_InvalidStep, false), (C_InvalidReader, false), (C_WorldsDiffer, false), (C_TooMany, false), (C_InvalidName, true), (C_WrongKind, false), (C_CircularName, false), (C_InUse, false), (C_Breaks, false), (C_CapacityExceeded, false), (C_InvalidLimit, false), (C_InvalidCommand, false), (C_InvalidPage, false), (C_UnknownName, false), (C_NothingLeft, false)] = true)
    (kx_InvalidPage : kxB K (.ref C_InvalidPage) [(C_InvalidRatio, false), (C_InvalidWorld, false), (C_InvalidElement, false), (C_InvalidText, false), (C_InvalidProgram, false), (C_InvalidPlan, false), (C_EmptyLoop, false), (C_InvalidStep, false), (C_InvalidReader, false), (C_WorldsDiffer, false), (C_TooMany, false), (C_InvalidName, false), (C_WrongKind, false), (C_CircularName, false), (C_InUse, false), (C_Breaks, false), (C_CapacityExceeded, false), (C_InvalidLimit, false), (C_InvalidCommand, false), (C_InvalidPage, true), (C_UnknownName, false), (C_NothingLeft, false)] = true)
    (kx_InvalidPlan : kxB K (.ref C_InvalidPlan) [(C_InvalidRatio, false), (C_InvalidWorld, false), (C_InvalidElement, false), (C_InvalidText, false), (C_InvalidProgram, false), (C_InvalidPlan, true), (C_EmptyLoop, false), (C_InvalidStep, false), (C_InvalidReader, false), (C_WorldsDiffer, false), (C_TooMany, false), (C_InvalidName, false), (C_WrongKind, false), (C_CircularName, false), (C_InUse, false), (C_Breaks, false), (C_CapacityExceeded, false), (C_InvalidLimit, false), (C_InvalidCommand, false), (C_InvalidPage, false), (C_UnknownName, false), (C_NothingLeft, false)] = true)
    (kx_InvalidProgram : kxB K (.ref C_InvalidProgram) [(C_InvalidRatio, false), (C_InvalidWorld, false), (C_InvalidElement, false), (C_InvalidText, false), (C_InvalidProgram, true), (C_InvalidPlan, false), (C_EmptyLoop, false), (C_InvalidStep, false), (C_InvalidReader, false), (C_WorldsDiffer, false), (C_TooMany, false), (C_InvalidName, false), (C_WrongKind, false), (C_CircularName, false), (C_InUse, false), (C_Breaks, false), (C_CapacityExceeded, false), (C_InvalidLimit, false), (C_InvalidCommand, false), (C_InvalidPage, false), (C_UnknownName, false), (C_NothingLeft, false)] = true)
    (kx_InvalidRatio : kxB K (.ref C_InvalidRatio) [(C_InvalidRatio, true), (C_InvalidWorld, false), (C_InvalidElement, false), (C_InvalidText, false), (C_InvalidProgram, false), (C_InvalidPlan, false), (C_EmptyLoop, false), (C_InvalidStep, false), (C_InvalidReader, false), (C_WorldsDiffer, false), (C_TooMany, false), (C_InvalidName, false), (C_WrongKind, false), (C_CircularName, false), (C_InUse, false), (C_Breaks, false), (C_CapacityExceeded, false), (C_InvalidLimit, false), (C_InvalidCommand, false), (C_InvalidPage, false), (C_UnknownName, false), (C_NothingLeft, false)] = true)
    (kx_InvalidReader : kxB K (.ref C_InvalidReader) [(C_InvalidRatio, false), (C_InvalidWorld, false), (C_InvalidElement, false), (C_InvalidText, false), (C_InvalidProgram, false), (C_InvalidPlan, false), (C_EmptyLoop, false), (C_InvalidStep, false), (C_InvalidReader, true), (C_WorldsDiffer, false), (C_TooMany, false), (C_InvalidName, false), (C_WrongKind, false), (C_CircularName, false), (C_InUse, false), (C_Breaks, false), (C_CapacityExceeded, false), (C_InvalidLimit, false), (C_InvalidCommand, false), (C_InvalidPage, false), (C_UnknownName, false), (C_NothingLeft, false)] = true)
    (kx_InvalidStep : kxB K (.ref C_InvalidStep) [(C_InvalidRatio, false), (C_InvalidWorld, false), (C_InvalidElement, false), (C_InvalidText, false), (C_InvalidProgram, false), (C_InvalidPlan, false), (C_EmptyLoop, false), (C_InvalidStep, true), (C_InvalidReader, false), (C_WorldsDiffer, false), (C_TooMany, false), (C_InvalidName, false), (C_WrongKind, false), (C_CircularName, false), (C_InUse, false), (C_Breaks, false), (C_CapacityExceeded, false), (C_InvalidLimit, false), (C_InvalidCommand, false), (C_InvalidPage, false), (C_UnknownName, false), (C_NothingLeft, false)] = true)
    (kx_InvalidText : kxB K (.ref C_InvalidText) [(C_InvalidRatio, false), (C_InvalidWorld, false), (C_InvalidElement, false), (C_InvalidText, true), (C_InvalidProgram, false), (C_InvalidPlan, false), (C_EmptyLoop, false), (C_InvalidStep, false), (C_InvalidReader, false), (C_WorldsDiffer, false), (C_TooMany, false), (C_InvalidName, false), (C_WrongKind, false), (C_CircularName, false), (C_InUse, false), (C_Breaks, false), (C_CapacityExceeded, false), (C_InvalidLimit, false), (C_InvalidCommand, false), (C_InvalidPage, false), (C_UnknownName, false), (C_NothingLeft, false)] = true)
    (kx_InvalidWorld : kxB K (.ref C_InvalidWorld) [(C_InvalidRatio, false), (C_InvalidWorld, true), (C_InvalidElement, false), (C_InvalidText, false), (C_InvalidProgram, false), (C_InvalidPlan, false), (C_EmptyLoop, false), (C_InvalidStep, false), (C_InvalidReader, false), (C_WorldsDiffer, false), (C_TooMany, false), (C_InvalidName, false), (C_WrongKind, false), (C_CircularName, false), (C_InUse, false), (C_Breaks, false), (C_CapacityExceeded, false), (C_InvalidLimit, false), (C_InvalidCommand, false), (C_InvalidPage, false), (C_UnknownName, false), (C_NothingLeft, false)] = true)
    (kx_LookupError : kxB K (.type "LookupError") [(C_InvalidRatio, false), (C_InvalidWorld, false), (C_InvalidElement, false), (C_InvalidText, false), (C_InvalidProgram, false), (C_InvalidPlan, false), (C_EmptyLoop, false), (C_InvalidStep, false), (C_InvalidReader, false), (C_WorldsDiffer, false), (C_TooMany, false), (C_InvalidName, false), (C_WrongKind, false), (C_CircularName, false), (C_InUse, false), (C_Breaks, false), (C_CapacityExceeded, false), (C_InvalidLimit, false), (C_InvalidCommand, false), (C_InvalidPage, false), (C_UnknownName, true), (C_NothingLeft, true)] = true)
    (kx_Missing : kxB K (.ref C_Missing) [(C_InvalidRatio, false), (C_InvalidWorld, false), (C_InvalidElement, false), (C_InvalidText, false), (C_InvalidProgram, false), (C_InvalidPlan, false), (C_EmptyLoop, false), (C_InvalidStep, false), (C_InvalidReader, false), (C_WorldsDiffer, false), (C_TooMany, false), (C_InvalidName, false), (C_WrongKind, false), (C_CircularName, false), (C_InUse, false), (C_Breaks, false), (C_CapacityExceeded, false), (C_InvalidLimit, false), (C_InvalidCommand, false), (C_InvalidPage, false), (C_UnknownName, true), (C_NothingLeft, false)] = true)
    (kx_NothingLeft : kxB K (.ref C_NothingLeft) [(C_InvalidRatio, false), (C_InvalidWorld, false), (C_InvalidElement, false), (C_InvalidText, false), (C_InvalidProgram, false), (C_InvalidPlan, false), (C_EmptyLoop, false), (C_InvalidStep, false), (C_InvalidReader, false), (C_WorldsDiffer, false), (C_TooMany, false), (C_InvalidName, false), (C_WrongKind, false), (C_CircularName, false), (C_InUse, false), (C_Breaks, false), (C_CapacityExceeded, false), (C_InvalidLimit, false), (C_InvalidCommand, false), (C_InvalidPage, false), (C_UnknownName, false), (C_NothingLeft, true)] = true)
    (kx_TooMany : kxB K (.ref C_TooMany) [(C_InvalidRatio, false), (C_InvalidWorld, false), (C_InvalidElement, false), (C_InvalidText, false), (C_InvalidProgram, false), (C_InvalidPlan, false), (C_EmptyLoop, false), (C_InvalidStep, false), (C_InvalidReader, false), (C_WorldsDiffer, false), (C_TooMany, true), (C_InvalidName, false), (C_WrongKind, false), (C_CircularName, false), (C_InUse, false), (C_Breaks, false), (C_CapacityExceeded, false), (C_InvalidLimit, false), (C_InvalidCommand, false), (C_InvalidPage, false), (C_UnknownName, false), (C_NothingLeft, false)] = true)
    (kx_UnknownName : kxB K (.ref C_UnknownName) [(C_InvalidRatio, false), (C_InvalidWorld, false), (C_InvalidElement, false), (C_InvalidText, false), (C_InvalidProgram, false), (C_InvalidPlan, false), (C_EmptyLoop, false), (C_InvalidStep, false), (C_InvalidReader, false), (C_WorldsDiffer, false), (C_TooMany, false), (C_InvalidName, false), (C_WrongKind, false), (C_CircularName, false), (C_InUse, false), (C_Breaks, false), (C_CapacityExceeded, false), (C_InvalidLimit, false), (C_InvalidCommand, false), (C_InvalidPage, false), (C_UnknownName, true), (C_NothingLeft, false)] = true)
    (kx_ValueError : kxB K (.type "ValueError") [(C_InvalidRatio, true), (C_InvalidWorld, true), (C_InvalidElement, true), (C_InvalidText, true), (C_InvalidProgram, true), (C_InvalidPlan, true), (C_EmptyLoop, true), (C_InvalidStep, true), (C_InvalidReader, true), (C_WorldsDiffer, true), (C_TooMany, true), (C_InvalidName, true), (C_WrongKind, true), (C_CircularName, true), (C_InUse, true), (C_Breaks, true), (C_CapacityExceeded, true), (C_InvalidLimit, true), (C_InvalidCommand, true), (C_InvalidPage, true), (C_UnknownName, false), (C_NothingLeft, false)] = true)
    (kx_WayError : kxB K (.ref C_WayError) [(C_InvalidRatio, true), (C_InvalidWorld, true), (C_InvalidElement, true), (C_InvalidText, true), (C_InvalidProgram, true), (C_InvalidPlan, true), (C_EmptyLoop, true), (C_InvalidStep, true), (C_InvalidReader, true), (C_WorldsDiffer, true), (C_TooMany, true), (C_InvalidName, true), (C_WrongKind, true), (C_CircularName, true), (C_InUse, true), (C_Breaks, true), (C_CapacityExceeded, true), (C_InvalidLimit, true), (C_InvalidCommand, true), (C_InvalidPage, true), (C_UnknownName, false), (C_NothingLeft, false)] = true)
    (kx_WorldsDiffer : kxB K (.ref C_WorldsDiffer) [(C_InvalidRatio, false), (C_InvalidWorld, false), (C_InvalidElement, false), (C_InvalidText, false), (C_InvalidProgram, false), (C_InvalidPlan, false), (C_EmptyLoop, false), (C_InvalidStep, false), (C_InvalidReader, false), (C_WorldsDiffer, true), (C_TooMany, false), (C_InvalidName, false), (C_WrongKind, false), (C_CircularName, false), (C_InUse, false), (C_Breaks, false), (C_CapacityExceeded, false), (C_InvalidLimit, false), (C_InvalidCommand, false), (C_InvalidPage, false), (C_UnknownName, false), (C_NothingLeft, false)] = true)
    (kx_WrongKind : kxB K (.ref C_WrongKind) [(C_InvalidRatio, false), (C_InvalidWorld, false), (C_InvalidElement, false), (C_InvalidText, false), (C_InvalidProgram, false), (C_InvalidPlan, false), (C_EmptyLoop, false), (C_InvalidStep, false), (C_InvalidReader, false), (C_WorldsDiffer, false), (C_TooMany, false), (C_InvalidName, false), (C_WrongKind, true), (C_CircularName, false), (C_InUse, false), (C_Breaks, false), (C_CapacityExceeded, false), (C_InvalidLimit, false), (C_InvalidCommand, false), (C_InvalidPage, false), (C_UnknownName, false), (C_NothingLeft, false)] = true)
    (xj_InvalidRatio : PySem.W.findIn K (.ref C_InvalidRatio) "__init__" = some (some (.ref ai_InvalidRatio)))
    (FN_InvalidRatio : ZX.SupFn l.prog K ai_InvalidRatio C_InvalidRatio "InvalidRatio.__init__" (defArgs s_InvalidRatio___init__) (defBody s_InvalidRatio___init__) (defScope s_InvalidRatio___init__))
    (xj_WayError : PySem.W.findIn K (.ref C_WayError) "__init__" = some (some (.ref ai_WayError)))
    (FN_WayError : ZX.SupFn l.prog K ai_WayError C_WayError "WayError.__init__" (defArgs s_WayError___init__) (defBody s_WayError___init__) (defScope s_WayError___init__))
    (xj_InvalidWorld : PySem.W.findIn K (.ref C_InvalidWorld) "__init__" = some (some (.ref ai_InvalidWorld)))
    (FN_InvalidWorld : ZX.SupFn l.prog K ai_InvalidWorld C_InvalidWorld "InvalidWorld.__init__" (defArgs s_InvalidWorld___init__) (defBody s_InvalidWorld___init__) (defScope s_InvalidWorld___init__))
    (xj_InvalidElement : PySem.W.findIn K (.ref C_InvalidElement) "__init__" = some (some (.ref ai_InvalidElement)))
    (FN_InvalidElement : ZX.SupFn l.prog K ai_InvalidElement C_InvalidElement "InvalidElement.__init__" (defArgs s_InvalidElement___init__) (defBody s_InvalidElement___init__) (defScope s_InvalidElement___init__))
    (xj_InvalidText : PySem.W.findIn K (.ref C_InvalidText) "__init__" = some (some (.ref ai_InvalidText)))
    (FN_InvalidText : ZX.SupFn l.prog K ai_InvalidText C_InvalidText "InvalidText.__init__" (defArgs s_InvalidText___init__) (defBody s_InvalidText___init__) (defScope s_InvalidText___init__))
    (xj_InvalidProgram : PySem.W.findIn K (.ref C_InvalidProgram) "__init__" = some (some (.ref ai_InvalidProgram)))
    (FN_InvalidProgram : ZX.SupFn l.prog K ai_InvalidProgram C_InvalidProgram "InvalidProgram.__init__" (defArgs s_InvalidProgram___init__) (defBody s_InvalidProgram___init__) (defScope s_InvalidProgram___init__))
    (xj_InvalidPlan : PySem.W.findIn K (.ref C_InvalidPlan) "__init__" = some (some (.ref ai_InvalidPlan)))
    (FN_InvalidPlan : ZX.SupFn l.prog K ai_InvalidPlan C_InvalidPlan "InvalidPlan.__init__" (defArgs s_InvalidPlan___init__) (defBody s_InvalidPlan___init__) (defScope s_InvalidPlan___init__))
    (xj_EmptyLoop : PySem.W.findIn K (.ref C_EmptyLoop) "__init__" = some (some (.ref ai_EmptyLoop)))
    (FN_EmptyLoop : ZX.SupFn l.prog K ai_EmptyLoop C_EmptyLoop "EmptyLoop.__init__" (defArgs s_EmptyLoop___init__) (defBody s_EmptyLoop___init__) (defScope s_EmptyLoop___init__))
    (xj_InvalidStep : PySem.W.findIn K (.ref C_InvalidStep) "__init__" = some (some (.ref ai_InvalidStep)))
    (FN_InvalidStep : ZX.SupFn l.prog K ai_InvalidStep C_InvalidStep "InvalidStep.__init__" (defArgs s_InvalidStep___init__) (defBody s_InvalidStep___init__) (defScope s_InvalidStep___init__))
    (xj_InvalidReader : PySem.W.findIn K (.ref C_InvalidReader) "__init__" = some (some (.ref ai_InvalidReader)))
    (FN_InvalidReader : ZX.SupFn l.prog K ai_InvalidReader C_InvalidReader "InvalidReader.__init__" (defArgs s_InvalidReader___init__) (defBody s_InvalidReader___init__) (defScope s_InvalidReader___init__))
    (xj_WorldsDiffer : PySem.W.findIn K (.ref C_WorldsDiffer) "__init__" = some (some (.ref ai_WorldsDiffer)))
    (FN_WorldsDiffer : ZX.SupFn l.prog K ai_WorldsDiffer C_WorldsDiffer "WorldsDiffer.__init__" (defArgs s_WorldsDiffer___init__) (defBody s_WorldsDiffer___init__) (defScope s_WorldsDiffer___init__))
    (xj_TooMany : PySem.W.findIn K (.ref C_TooMany) "__init__" = some (some (.ref ai_TooMany)))
    (FN_TooMany : ZX.SupFn l.prog K ai_TooMany C_TooMany "TooMany.__init__" (defArgs s_TooMany___init__) (defBody s_TooMany___init__) (defScope s_TooMany___init__))
    (xj_InvalidName : PySem.W.findIn K (.ref C_InvalidName) "__init__" = some (some (.ref ai_InvalidName)))
    (FN_InvalidName : ZX.SupFn l.prog K ai_InvalidName C_InvalidName "InvalidName.__init__" (defArgs s_InvalidName___init__) (defBody s_InvalidName___init__) (defScope s_InvalidName___init__))
    (xj_WrongKind : PySem.W.findIn K (.ref C_WrongKind) "__init__" = some (some (.ref ai_WrongKind)))
    (FN_WrongKind : ZX.SupFn l.prog K ai_WrongKind C_WrongKind "WrongKind.__init__" (defArgs s_WrongKind___init__) (defBody s_WrongKind___init__) (defScope s_WrongKind___init__))
    (xj_CircularName : PySem.W.findIn K (.ref C_CircularName) "__init__" = some (some (.ref ai_CircularName)))
    (FN_CircularName : ZX.SupFn l.prog K ai_CircularName C_CircularName "CircularName.__init__" (defArgs s_CircularName___init__) (defBody s_CircularName___init__) (defScope s_CircularName___init__))
    (xj_InUse : PySem.W.findIn K (.ref C_InUse) "__init__" = some (some (.ref ai_InUse)))
    (FN_InUse : ZX.SupFn l.prog K ai_InUse C_InUse "InUse.__init__" (defArgs s_InUse___init__) (defBody s_InUse___init__) (defScope s_InUse___init__))
    (xj_Breaks : PySem.W.findIn K (.ref C_Breaks) "__init__" = some (some (.ref ai_Breaks)))
    (FN_Breaks : ZX.SupFn l.prog K ai_Breaks C_Breaks "Breaks.__init__" (defArgs s_Breaks___init__) (defBody s_Breaks___init__) (defScope s_Breaks___init__))
    (xj_CapacityExceeded : PySem.W.findIn K (.ref C_CapacityExceeded) "__init__" = some (some (.ref ai_CapacityExceeded)))
    (FN_CapacityExceeded : ZX.SupFn l.prog K ai_CapacityExceeded C_CapacityExceeded "CapacityExceeded.__init__" (defArgs s_CapacityExceeded___init__) (defBody s_CapacityExceeded___init__) (defScope s_CapacityExceeded___init__))
    (xj_InvalidLimit : PySem.W.findIn K (.ref C_InvalidLimit) "__init__" = some (some (.ref ai_InvalidLimit)))
    (FN_InvalidLimit : ZX.SupFn l.prog K ai_InvalidLimit C_InvalidLimit "InvalidLimit.__init__" (defArgs s_InvalidLimit___init__) (defBody s_InvalidLimit___init__) (defScope s_InvalidLimit___init__))
    (xj_InvalidCommand : PySem.W.findIn K (.ref C_InvalidCommand) "__init__" = some (some (.ref ai_InvalidCommand)))
    (FN_InvalidCommand : ZX.SupFn l.prog K ai_InvalidCommand C_InvalidCommand "InvalidCommand.__init__" (defArgs s_InvalidCommand___init__) (defBody s_InvalidCommand___init__) (defScope s_InvalidCommand___init__))
    (xj_InvalidPage : PySem.W.findIn K (.ref C_InvalidPage) "__init__" = some (some (.ref ai_InvalidPage)))
    (FN_InvalidPage : ZX.SupFn l.prog K ai_InvalidPage C_InvalidPage "InvalidPage.__init__" (defArgs s_InvalidPage___init__) (defBody s_InvalidPage___init__) (defScope s_InvalidPage___init__))
    (xj_UnknownName : PySem.W.findIn K (.ref C_UnknownName) "__init__" = some (some (.ref ai_UnknownName)))
    (FN_UnknownName : ZX.SupFn l.prog K ai_UnknownName C_UnknownName "UnknownName.__init__" (defArgs s_UnknownName___init__) (defBody s_UnknownName___init__) (defScope s_UnknownName___init__))
    (xj_Missing : PySem.W.findIn K (.ref C_Missing) "__init__" = some (some (.ref ai_Missing)))
    (FN_Missing : ZX.SupFn l.prog K ai_Missing C_Missing "Missing.__init__" (defArgs s_Missing___init__) (defBody s_Missing___init__) (defScope s_Missing___init__))
    (xj_NothingLeft : PySem.W.findIn K (.ref C_NothingLeft) "__init__" = some (some (.ref ai_NothingLeft)))
    (FN_NothingLeft : ZX.SupFn l.prog K ai_NothingLeft C_NothingLeft "NothingLeft.__init__" (defArgs s_NothingLeft___init__) (defBody s_NothingLeft___init__) (defScope s_NothingLeft___init__))
    (xb_InvalidRatio : xh2B K C_InvalidRatio C_WayError ai_InvalidRatio ai_WayError [.type "ValueError", .type "Exception", .type "BaseException", .type "object"] "ValueError" "ValueError.__new__" "ValueError.__init__" (.ref ai_WayError) ["tag", "value"] = true)
    (xb_InvalidWorld : xh2B K C_InvalidWorld C_WayError ai_InvalidWorld ai_WayError [.type "ValueError", .type "Exception", .type "BaseException", .type "object"] "ValueError" "ValueError.__new__" "ValueError.__init__" (.ref ai_WayError) ["tag", "value"] = true)
    (xb_InvalidElement : xh2B K C_InvalidElement C_WayError ai_InvalidElement ai_WayError [.type "ValueError", .type "Exception", .type "BaseException", .type "object"] "ValueError" "ValueError.__new__" "ValueError.__init__" (.ref ai_WayError) ["tag", "value"] = true)
    (xb_InvalidText : xh2B K C_InvalidText C_WayError ai_InvalidText ai_WayError [.type "ValueError", .type "Exception", .type "BaseException", .type "object"] "ValueError" "ValueError.__new__" "ValueError.__init__" (.ref ai_WayError) ["tag", "given"] = true)
    (xb_InvalidProgram : xh2B K C_InvalidProgram C_WayError ai_InvalidProgram ai_WayError [.type "ValueError", .type "Exception", .type "BaseException", .type "object"] "ValueError" "ValueError.__new__" "ValueError.__init__" (.ref ai_WayError) ["tag", "part"] = true)
    (xb_InvalidPlan : xh2B K C_InvalidPlan C_WayError ai_InvalidPlan ai_WayError [.type "ValueError", .type "Exception", .type "BaseException", .type "object"] "ValueError" "ValueError.__new__" "ValueError.__init__" (.ref ai_WayError) ["tag", "path"] = true)
    (xb_EmptyLoop : xh2B K C_EmptyLoop C_WayError ai_EmptyLoop ai_WayError [.type "ValueError", .type "Exception", .type "BaseException", .type "object"] "ValueError" "ValueError.__new__" "ValueError.__init__" (.ref ai_WayError) ["tag", "path"] = true)
    (xb_InvalidStep : xh2B K C_InvalidStep C_WayError ai_InvalidStep ai_WayError [.type "ValueError", .type "Exception", .type "BaseException", .type "object"] "ValueError" "ValueError.__new__" "ValueError.__init__" (.ref ai_WayError) ["tag", "value"] = true)
    (xb_InvalidReader : xh2B K C_InvalidReader C_WayError ai_InvalidReader ai_WayError [.type "ValueError", .type "Exception", .type "BaseException", .type "object"] "ValueError" "ValueError.__new__" "ValueError.__init__" (.ref ai_WayError) ["tag", "place"] = true)
    (xb_WorldsDiffer : xh2B K C_WorldsDiffer C_WayError ai_WorldsDiffer ai_WayError [.type "ValueError", .type "Exception", .type "BaseException", .type "object"] "ValueError" "ValueError.__new__" "ValueError.__init__" (.ref ai_WayError) ["tag"] = true)
    (xb_TooMany : xh2B K C_TooMany C_WayError ai_TooMany ai_WayError [.type "ValueError", .type "Exception", .type "BaseException", .type "object"] "ValueError" "ValueError.__new__" "ValueError.__init__" (.ref ai_WayError) ["tag", "limit"] = true)
    (xb_InvalidName : xh2B K C_InvalidName C_WayError ai_InvalidName ai_WayError [.type "ValueError", .type "Exception", .type "BaseException", .type "object"] "ValueError" "ValueError.__new__" "ValueError.__init__" (.ref ai_WayError) ["tag", "name"] = true)
    (xb_WrongKind : xh2B K C_WrongKind C_WayError ai_WrongKind ai_WayError [.type "ValueError", .type "Exception", .type "BaseException", .type "object"] "ValueError" "ValueError.__new__" "ValueError.__init__" (.ref ai_WayError) ["tag", "name"] = true)
    (xb_CircularName : xh2B K C_CircularName C_WayError ai_CircularName ai_WayError [.type "ValueError", .type "Exception", .type "BaseException", .type "object"] "ValueError" "ValueError.__new__" "ValueError.__init__" (.ref ai_WayError) ["tag", "name"] = true)
    (xb_InUse : xh2B K C_InUse C_WayError ai_InUse ai_WayError [.type "ValueError", .type "Exception", .type "BaseException", .type "object"] "ValueError" "ValueError.__new__" "ValueError.__init__" (.ref ai_WayError) ["tag", "user"] = true)
    (xb_Breaks : xh2B K C_Breaks C_WayError ai_Breaks ai_WayError [.type "ValueError", .type "Exception", .type "BaseException", .type "object"] "ValueError" "ValueError.__new__" "ValueError.__init__" (.ref ai_WayError) ["tag", "user", "word"] = true)
    (xb_CapacityExceeded : xh2B K C_CapacityExceeded C_WayError ai_CapacityExceeded ai_WayError [.type "ValueError", .type "Exception", .type "BaseException", .type "object"] "ValueError" "ValueError.__new__" "ValueError.__init__" (.ref ai_WayError) ["tag", "limit"] = true)
    (xb_InvalidLimit : xh2B K C_InvalidLimit C_WayError ai_InvalidLimit ai_WayError [.type "ValueError", .type "Exception", .type "BaseException", .type "object"] "ValueError" "ValueError.__new__" "ValueError.__init__" (.ref ai_WayError) ["tag", "value"] = true)
    (xb_InvalidCommand : xh2B K C_InvalidCommand C_WayError ai_InvalidCommand ai_WayError [.type "ValueError", .type "Exception", .type "BaseException", .type "object"] "ValueError" "ValueError.__new__" "ValueError.__init__" (.ref ai_WayError) ["tag", "word"] = true)
    (xb_InvalidPage : xh2B K C_InvalidPage C_WayError ai_InvalidPage ai_WayError [.type "ValueError", .type "Exception", .type "BaseException", .type "object"] "ValueError" "ValueError.__new__" "ValueError.__init__" (.ref ai_WayError) ["tag", "line"] = true)
    (xb_UnknownName : xh2B K C_UnknownName C_Missing ai_UnknownName ai_Missing [.type "LookupError", .type "Exception", .type "BaseException", .type "object"] "LookupError" "LookupError.__new__" "LookupError.__init__" (.ref ai_Missing) ["tag", "name"] = true)
    (xb_NothingLeft : xh2B K C_NothingLeft C_NothingLeft ai_NothingLeft ai_NothingLeft [.type "IndexError", .type "LookupError", .type "Exception", .type "BaseException", .type "object"] "IndexError" "IndexError.__new__" "IndexError.__init__" (.builtin "IndexError.__init__") ["tag"] = true)
    (b_super : PySem.W.nsIn K mainGlobals "super" = some none)
    (tp_any : PySem.W.nsIn K cStatics "thirdparty.any" = some none)
    (top_super : (l.prog.main.scope.names.lookup ("super" : Str)).isSome = false)
    (b_IndexError : PySem.W.nsIn K mainGlobals "IndexError" = some none)
    (b_LookupError : PySem.W.nsIn K mainGlobals "LookupError" = some none)
    (b_ValueError : PySem.W.nsIn K mainGlobals "ValueError" = some none)
    (b_all : PySem.W.nsIn K mainGlobals "all" = some none)
    (b_bool : PySem.W.nsIn K mainGlobals "bool" = some none)
    (b_enumerate : PySem.W.nsIn K mainGlobals "enumerate" = some none)
    (b_int : PySem.W.nsIn K mainGlobals "int" = some none)
    (b_isinstance : PySem.W.nsIn K mainGlobals "isinstance" = some none)
    (b_len : PySem.W.nsIn K mainGlobals "len" = some none)
    (b_list : PySem.W.nsIn K mainGlobals "list" = some none)
    (b_range : PySem.W.nsIn K mainGlobals "range" = some none)
    (b_str : PySem.W.nsIn K mainGlobals "str" = some none)
    (b_tuple : PySem.W.nsIn K mainGlobals "tuple" = some none)
    (b_zip : PySem.W.nsIn K mainGlobals "zip" = some none)
    : ∃ fd : FuncData, (∀ (s : Shared) (v : Value), BindsTo s fd ⟨[v], []⟩ [("_law_script", v)]) ∧ ∀ base : Heap, K.In base → base.Ns mainGlobals mg → FnOk l.prog w K mg base (L2.CX l.prog w) 14 fa fd ["_law_script"] (spLaw K) := by
  have e := hfa.symm.trans (PySem.W.mg_of X G h_law)
  have e2 : a_law = fa := by injection e with e; injection e with e; exact e.symm
  subst e2
  have XS : XsOk K mg [("InvalidRatio", C_InvalidRatio), ("InvalidWorld", C_InvalidWorld), ("InvalidElement", C_InvalidElement), ("InvalidText", C_InvalidText), ("InvalidProgram", C_InvalidProgram), ("InvalidPlan", C_InvalidPlan), ("EmptyLoop", C_EmptyLoop), ("InvalidStep", C_InvalidStep), ("InvalidReader", C_InvalidReader), ("WorldsDiffer", C_WorldsDiffer), ("TooMany", C_TooMany), ("InvalidName", C_InvalidName), ("WrongKind", C_WrongKind), ("CircularName", C_CircularName), ("InUse", C_InUse), ("Breaks", C_Breaks), ("CapacityExceeded", C_CapacityExceeded), ("InvalidLimit", C_InvalidLimit), ("InvalidCommand", C_InvalidCommand), ("InvalidPage", C_InvalidPage), ("UnknownName", C_UnknownName), ("NothingLeft", C_NothingLeft)] := (xs_cons (PySem.W.mg_of X G h_InvalidRatio) (xh2_ok xb_InvalidRatio).xe (xs_cons (PySem.W.mg_of X G h_InvalidWorld) (xh2_ok xb_InvalidWorld).xe (xs_cons (PySem.W.mg_of X G h_InvalidElement) (xh2_ok xb_InvalidElement).xe (xs_cons (PySem.W.mg_of X G h_InvalidText) (xh2_ok xb_InvalidText).xe (xs_cons (PySem.W.mg_of X G h_InvalidProgram) (xh2_ok xb_InvalidProgram).xe (xs_cons (PySem.W.mg_of X G h_InvalidPlan) (xh2_ok xb_InvalidPlan).xe (xs_cons (PySem.W.mg_of X G h_EmptyLoop) (xh2_ok xb_EmptyLoop).xe (xs_cons (PySem.W.mg_of X G h_InvalidStep) (xh2_ok xb_InvalidStep).xe (xs_cons (PySem.W.mg_of X G h_InvalidReader) (xh2_ok xb_InvalidReader).xe (xs_cons (PySem.W.mg_of X G h_WorldsDiffer) (xh2_ok xb_WorldsDiffer).xe (xs_cons (PySem.W.mg_of X G h_TooMany) (xh2_ok xb_TooMany).xe (xs_cons (PySem.W.mg_of X G h_InvalidName) (xh2_ok xb_InvalidName).xe (xs_cons (PySem.W.mg_of X G h_WrongKind) (xh2_ok xb_WrongKind).xe (xs_cons (PySem.W.mg_of X G h_CircularName) (xh2_ok xb_CircularName).xe (xs_cons (PySem.W.mg_of X G h_InUse) (xh2_ok xb_InUse).xe (xs_cons (PySem.W.mg_of X G h_Breaks) (xh2_ok xb_Breaks).xe (xs_cons (PySem.W.mg_of X G h_CapacityExceeded) (xh2_ok xb_CapacityExceeded).xe (xs_cons (PySem.W.mg_of X G h_InvalidLimit) (xh2_ok xb_InvalidLimit).xe (xs_cons (PySem.W.mg_of X G h_InvalidCommand) (xh2_ok xb_InvalidCommand).xe (xs_cons (PySem.W.mg_of X G h_InvalidPage) (xh2_ok xb_InvalidPage).xe (xs_cons (PySem.W.mg_of X G h_UnknownName) (xh2_ok xb_UnknownName).xe (xs_cons (PySem.W.mg_of X G h_NothingLeft) (xh2_ok xb_NothingLeft).xe xs_nil))))))))))))))))))))))
  have T : Tx K mg a__law_all a__law_bag a__law_field a__law_flags a__law_pick a__law_of a__law_same a_law C_WayError C_Missing C_InvalidRatio C_InvalidWorld C_InvalidElement C_InvalidText C_InvalidProgram C_InvalidPlan C_EmptyLoop C_InvalidStep C_InvalidReader C_WorldsDiffer C_TooMany C_InvalidName C_WrongKind C_CircularName C_InUse C_Breaks C_CapacityExceeded C_InvalidLimit C_InvalidCommand C_InvalidPage C_UnknownName C_NothingLeft := { m__law_all := PySem.W.mg_of X G h__law_all, k__law_all := k__law_all, m__law_bag := PySem.W.mg_of X G h__law_bag, k__law_bag := k__law_bag, m__law_field := PySem.W.mg_of X G h__law_field, k__law_field := k__law_field, m__law_flags := PySem.W.mg_of X G h__law_flags, k__law_flags := k__law_flags, m__law_pick := PySem.W.mg_of X G h__law_pick, k__law_pick := k__law_pick, m__law_of := PySem.W.mg_of X G h__law_of, k__law_of := k__law_of, m__law_same := PySem.W.mg_of X G h__law_same, k__law_same := k__law_same, m_law := PySem.W.mg_of X G h_law, k_law := k_law, m_WayError := PySem.W.mg_of X G h_WayError, m_Missing := PySem.W.mg_of X G h_Missing, m_InvalidRatio := PySem.W.mg_of X G h_InvalidRatio, m_InvalidWorld := PySem.W.mg_of X G h_InvalidWorld, m_InvalidElement := PySem.W.mg_of X G h_InvalidElement, m_InvalidText := PySem.W.mg_of X G h_InvalidText, m_InvalidProgram := PySem.W.mg_of X G h_InvalidProgram, m_InvalidPlan := PySem.W.mg_of X G h_InvalidPlan, m_EmptyLoop := PySem.W.mg_of X G h_EmptyLoop, m_InvalidStep := PySem.W.mg_of X G h_InvalidStep, m_InvalidReader := PySem.W.mg_of X G h_InvalidReader, m_WorldsDiffer := PySem.W.mg_of X G h_WorldsDiffer, m_TooMany := PySem.W.mg_of X G h_TooMany, m_InvalidName := PySem.W.mg_of X G h_InvalidName, m_WrongKind := PySem.W.mg_of X G h_WrongKind, m_CircularName := PySem.W.mg_of X G h_CircularName, m_InUse := PySem.W.mg_of X G h_InUse, m_Breaks := PySem.W.mg_of X G h_Breaks, m_CapacityExceeded := PySem.W.mg_of X G h_CapacityExceeded, m_InvalidLimit := PySem.W.mg_of X G h_InvalidLimit, m_InvalidCommand := PySem.W.mg_of X G h_InvalidCommand, m_InvalidPage := PySem.W.mg_of X G h_InvalidPage, m_UnknownName := PySem.W.mg_of X G h_UnknownName, m_NothingLeft := PySem.W.mg_of X G h_NothingLeft, ix_Breaks := isx1_of (bs := [false, false, false, false, false, false, false, false, false, false, false, false, false, false, false, true, false, false, false, false, false, false]) XS (PySem.W.mg_of X G h_Breaks) kx_Breaks rfl rfl, ix_CapacityExceeded := isx1_of (bs := [false, false, false, false, false, false, false, false, false, false, false, false, false, false, false, false, true, false, false, false, false, false]) XS (PySem.W.mg_of X G h_CapacityExceeded) kx_CapacityExceeded rfl rfl, ix_CircularName := isx1_of (bs := [false, false, false, false, false, false, false, false, false, false, false, false, false, true, false, false, false, false, false, false, false, false]) XS (PySem.W.mg_of X G h_CircularName) kx_CircularName rfl rfl, ix_EmptyLoop := isx1_of (bs := [false, false, false, false, false, false, true, false, false, false, false, false, false, false, false, false, false, false, false, false, false, false]) XS (PySem.W.mg_of X G h_EmptyLoop) kx_EmptyLoop rfl rfl, ix_InUse := isx1_of (bs := [false, false, false, false, false, false, false, false, false, false, false, false, false, false, true, false, false, false, false, false, false, false]) XS (PySem.W.mg_of X G h_InUse) kx_InUse rfl rfl, ix_IndexError := isx1_of (bs := [false, false, false, false, false, false, false, false, false, false, false, false, false, false, false, false, false, false, false, false, false, true]) XS rfl kx_IndexError rfl rfl, ix_InvalidCommand := isx1_of (bs := [false, false, false, false, false, false, false, false, false, false, false, false, false, false, false, false, false, false, true, false, false, false]) XS (PySem.W.mg_of X G h_InvalidCommand) kx_InvalidCommand rfl rfl, ix_InvalidElement := isx1_of (bs := [false, false, true, false, false, false, false, false, false, false, false, false, false, false, false, false, false, false, false, false, false, false]) XS (PySem.W.mg_of X G h_InvalidElement) kx_InvalidElement rfl rfl, ix_InvalidLimit := isx1_of (bs := [false, false, false, false, false, false, false, false, false, false, false, false, false, false, false, false, false, true, false, false, false, false]) XS (PySem.W.mg_of X G h_InvalidLimit) kx_InvalidLimit rfl rfl, ix_InvalidName := isx1_of (bs := [false, false, false, false, false, false, false, false, false, false, false, true, false, false, false, false, false, false, false, false, false, false]) XS (PySem.W.mg_of X G h_InvalidName) kx_InvalidName rfl rfl, ix_InvalidPage := isx1_of (bs := [false, false, false, false, false, false, false, false, false, false, false, false, false, false, false, false, false, false, false, true, false, false]) XS (PySem.W.mg_of X G h_InvalidPage) kx_InvalidPage rfl rfl, ix_InvalidPlan := isx1_of (bs := [false, false, false, false, false, true, false, false, false, false, false, false, false, false, false, false, false, false, false, false, false, false]) XS (PySem.W.mg_of X G h_InvalidPlan) kx_InvalidPlan rfl rfl, ix_InvalidProgram := isx1_of (bs := [false, false, false, false, true, false, false, false, false, false, false, false, false, false, false, false, false, false, false, false, false, false]) XS (PySem.W.mg_of X G h_InvalidProgram) kx_InvalidProgram rfl rfl, ix_InvalidRatio := isx1_of (bs := [true, false, false, false, false, false, false, false, false, false, false, false, false, false, false, false, false, false, false, false, false, false]) XS (PySem.W.mg_of X G h_InvalidRatio) kx_InvalidRatio rfl rfl, ix_InvalidReader := isx1_of (bs := [false, false, false, false, false, false, false, false, true, false, false, false, false, false, false, false, false, false, false, false, false, false]) XS (PySem.W.mg_of X G h_InvalidReader) kx_InvalidReader rfl rfl, ix_InvalidStep := isx1_of (bs := [false, false, false, false, false, false, false, true, false, false, false, false, false, false, false, false, false, false, false, false, false, false]) XS (PySem.W.mg_of X G h_InvalidStep) kx_InvalidStep rfl rfl, ix_InvalidText := isx1_of (bs := [false, false, false, true, false, false, false, false, false, false, false, false, false, false, false, false, false, false, false, false, false, false]) XS (PySem.W.mg_of X G h_InvalidText) kx_InvalidText rfl rfl, ix_InvalidWorld := isx1_of (bs := [false, true, false, false, false, false, false, false, false, false, false, false, false, false, false, false, false, false, false, false, false, false]) XS (PySem.W.mg_of X G h_InvalidWorld) kx_InvalidWorld rfl rfl, ix_LookupError := isx1_of (bs := [false, false, false, false, false, false, false, false, false, false, false, false, false, false, false, false, false, false, false, false, true, true]) XS rfl kx_LookupError rfl rfl, ix_Missing := isx1_of (bs := [false, false, false, false, false, false, false, false, false, false, false, false, false, false, false, false, false, false, false, false, true, false]) XS (PySem.W.mg_of X G h_Missing) kx_Missing rfl rfl, ix_NothingLeft := isx1_of (bs := [false, false, false, false, false, false, false, false, false, false, false, false, false, false, false, false, false, false, false, false, false, true]) XS (PySem.W.mg_of X G h_NothingLeft) kx_NothingLeft rfl rfl, ix_TooMany := isx1_of (bs := [false, false, false, false, false, false, false, false, false, false, true, false, false, false, false, false, false, false, false, false, false, false]) XS (PySem.W.mg_of X G h_TooMany) kx_TooMany rfl rfl, ix_UnknownName := isx1_of (bs := [false, false, false, false, false, false, false, false, false, false, false, false, false, false, false, false, false, false, false, false, true, false]) XS (PySem.W.mg_of X G h_UnknownName) kx_UnknownName rfl rfl, ix_ValueError := isx1_of (bs := [true, true, true, true, true, true, true, true, true, true, true, true, true, true, true, true, true, true, true, true, false, false]) XS rfl kx_ValueError rfl rfl, ix_WayError := isx1_of (bs := [true, true, true, true, true, true, true, true, true, true, true, true, true, true, true, true, true, true, true, true, false, false]) XS (PySem.W.mg_of X G h_WayError) kx_WayError rfl rfl, ix_WorldsDiffer := isx1_of (bs := [false, false, false, false, false, false, false, false, false, true, false, false, false, false, false, false, false, false, false, false, false, false]) XS (PySem.W.mg_of X G h_WorldsDiffer) kx_WorldsDiffer rfl rfl, ix_WrongKind := isx1_of (bs := [false, false, false, false, false, false, false, false, false, false, false, false, true, false, false, false, false, false, false, false, false, false]) XS (PySem.W.mg_of X G h_WrongKind) kx_WrongKind rfl rfl, xf_Breaks := (xh2_ok xb_Breaks).xf, xn_Breaks_tag := (xh2_ok xb_Breaks).at_ (by decide +kernel), xn_Breaks_user := (xh2_ok xb_Breaks).at_ (by decide +kernel), xn_Breaks_word := (xh2_ok xb_Breaks).at_ (by decide +kernel), xf_CapacityExceeded := (xh2_ok xb_CapacityExceeded).xf, xn_CapacityExceeded_limit := (xh2_ok xb_CapacityExceeded).at_ (by decide +kernel), xn_CapacityExceeded_tag := (xh2_ok xb_CapacityExceeded).at_ (by decide +kernel), xf_CircularName := (xh2_ok xb_CircularName).xf, xn_CircularName_name := (xh2_ok xb_CircularName).at_ (by decide +kernel), xn_CircularName_tag := (xh2_ok xb_CircularName).at_ (by decide +kernel), xf_EmptyLoop := (xh2_ok xb_EmptyLoop).xf, xn_EmptyLoop_path := (xh2_ok xb_EmptyLoop).at_ (by decide +kernel), xn_EmptyLoop_tag := (xh2_ok xb_EmptyLoop).at_ (by decide +kernel), xf_InUse := (xh2_ok xb_InUse).xf, xn_InUse_tag := (xh2_ok xb_InUse).at_ (by decide +kernel), xn_InUse_user := (xh2_ok xb_InUse).at_ (by decide +kernel), xf_InvalidCommand := (xh2_ok xb_InvalidCommand).xf, xn_InvalidCommand_tag := (xh2_ok xb_InvalidCommand).at_ (by decide +kernel), xn_InvalidCommand_word := (xh2_ok xb_InvalidCommand).at_ (by decide +kernel), xf_InvalidElement := (xh2_ok xb_InvalidElement).xf, xn_InvalidElement_tag := (xh2_ok xb_InvalidElement).at_ (by decide +kernel), xn_InvalidElement_value := (xh2_ok xb_InvalidElement).at_ (by decide +kernel), xf_InvalidLimit := (xh2_ok xb_InvalidLimit).xf, xn_InvalidLimit_tag := (xh2_ok xb_InvalidLimit).at_ (by decide +kernel), xn_InvalidLimit_value := (xh2_ok xb_InvalidLimit).at_ (by decide +kernel), xf_InvalidName := (xh2_ok xb_InvalidName).xf, xn_InvalidName_name := (xh2_ok xb_InvalidName).at_ (by decide +kernel), xn_InvalidName_tag := (xh2_ok xb_InvalidName).at_ (by decide +kernel), xf_InvalidPage := (xh2_ok xb_InvalidPage).xf, xn_InvalidPage_line := (xh2_ok xb_InvalidPage).at_ (by decide +kernel), xn_InvalidPage_tag := (xh2_ok xb_InvalidPage).at_ (by decide +kernel), xf_InvalidPlan := (xh2_ok xb_InvalidPlan).xf, xn_InvalidPlan_path := (xh2_ok xb_InvalidPlan).at_ (by decide +kernel), xn_InvalidPlan_tag := (xh2_ok xb_InvalidPlan).at_ (by decide +kernel), xf_InvalidProgram := (xh2_ok xb_InvalidProgram).xf, xn_InvalidProgram_part := (xh2_ok xb_InvalidProgram).at_ (by decide +kernel), xn_InvalidProgram_tag := (xh2_ok xb_InvalidProgram).at_ (by decide +kernel), xf_InvalidRatio := (xh2_ok xb_InvalidRatio).xf, xn_InvalidRatio_tag := (xh2_ok xb_InvalidRatio).at_ (by decide +kernel), xn_InvalidRatio_value := (xh2_ok xb_InvalidRatio).at_ (by decide +kernel), xf_InvalidReader := (xh2_ok xb_InvalidReader).xf, xn_InvalidReader_place := (xh2_ok xb_InvalidReader).at_ (by decide +kernel), xn_InvalidReader_tag := (xh2_ok xb_InvalidReader).at_ (by decide +kernel), xf_InvalidStep := (xh2_ok xb_InvalidStep).xf, xn_InvalidStep_tag := (xh2_ok xb_InvalidStep).at_ (by decide +kernel), xn_InvalidStep_value := (xh2_ok xb_InvalidStep).at_ (by decide +kernel), xf_InvalidText := (xh2_ok xb_InvalidText).xf, xn_InvalidText_given := (xh2_ok xb_InvalidText).at_ (by decide +kernel), xn_InvalidText_tag := (xh2_ok xb_InvalidText).at_ (by decide +kernel), xf_InvalidWorld := (xh2_ok xb_InvalidWorld).xf, xn_InvalidWorld_tag := (xh2_ok xb_InvalidWorld).at_ (by decide +kernel), xn_InvalidWorld_value := (xh2_ok xb_InvalidWorld).at_ (by decide +kernel), xf_NothingLeft := (xh2_ok xb_NothingLeft).xf, xn_NothingLeft_tag := (xh2_ok xb_NothingLeft).at_ (by decide +kernel), xf_TooMany := (xh2_ok xb_TooMany).xf, xn_TooMany_limit := (xh2_ok xb_TooMany).at_ (by decide +kernel), xn_TooMany_tag := (xh2_ok xb_TooMany).at_ (by decide +kernel), xf_UnknownName := (xh2_ok xb_UnknownName).xf, xn_UnknownName_name := (xh2_ok xb_UnknownName).at_ (by decide +kernel), xn_UnknownName_tag := (xh2_ok xb_UnknownName).at_ (by decide +kernel), xf_WorldsDiffer := (xh2_ok xb_WorldsDiffer).xf, xn_WorldsDiffer_tag := (xh2_ok xb_WorldsDiffer).at_ (by decide +kernel), xf_WrongKind := (xh2_ok xb_WrongKind).xf, xn_WrongKind_name := (xh2_ok xb_WrongKind).at_ (by decide +kernel), xn_WrongKind_tag := (xh2_ok xb_WrongKind).at_ (by decide +kernel), b_IndexError := PySem.W.mg_none_of X G b_IndexError, b_LookupError := PySem.W.mg_none_of X G b_LookupError, b_ValueError := PySem.W.mg_none_of X G b_ValueError, b_all := PySem.W.mg_none_of X G b_all, b_bool := PySem.W.mg_none_of X G b_bool, b_enumerate := PySem.W.mg_none_of X G b_enumerate, b_int := PySem.W.mg_none_of X G b_int, b_isinstance := PySem.W.mg_none_of X G b_isinstance, b_len := PySem.W.mg_none_of X G b_len, b_list := PySem.W.mg_none_of X G b_list, b_range := PySem.W.mg_none_of X G b_range, b_str := PySem.W.mg_none_of X G b_str, b_tuple := PySem.W.mg_none_of X G b_tuple, b_zip := PySem.W.mg_none_of X G b_zip }
  have F__law_all := fund_mk (st := s__law_all) l__law_all c__law_all k__law_all dfl_nil kwd_nil
  have F__law_bag := fund_mk (st := s__law_bag) l__law_bag c__law_bag k__law_bag dfl_nil kwd_nil
  have F__law_field := fund_mk (st := s__law_field) l__law_field c__law_field k__law_field dfl_nil kwd_nil
  have F__law_flags := fund_mk (st := s__law_flags) l__law_flags c__law_flags k__law_flags dfl_nil kwd_nil
  have F__law_pick := fund_mk (st := s__law_pick) l__law_pick c__law_pick k__law_pick dfl_nil kwd_nil
  have F__law_of := fund_mk (st := s__law_of) l__law_of c__law_of k__law_of dfl_nil kwd_nil
  have F__law_same := fund_mk (st := s__law_same) l__law_same c__law_same k__law_same dfl_nil kwd_nil
  have F_law := fund_mk (st := s_law) l_law c_law k_law dfl_nil kwd_nil
  refine ⟨PySem.W.fnOf "law" "law" (defArgs s_law) (defBody s_law) (defScope s_law) .none kV_law dc_law pm_law an_law cd_law ct_law, fun s v => .of_eq rfl, fun base _ _ => ?_⟩
  · have X_InvalidRatio := xm_X_InvalidRatio (l := l) (w := w) (base := base) X G h_InvalidRatio FN_InvalidRatio FN_WayError xb_InvalidRatio b_super tp_any top_super
    have X_InvalidWorld := xm_X_InvalidWorld (l := l) (w := w) (base := base) X G h_InvalidWorld FN_WayError FN_InvalidWorld xb_InvalidWorld b_super tp_any top_super
    have XK_InvalidWorld_0 := xm_XK_InvalidWorld_0 (l := l) (w := w) (base := base) X G X_InvalidWorld FN_WayError FN_InvalidWorld xb_InvalidWorld b_super tp_any top_super
    have X_InvalidElement := xm_X_InvalidElement (l := l) (w := w) (base := base) X G h_InvalidElement FN_WayError FN_InvalidElement xb_InvalidElement b_super tp_any top_super
    have X_InvalidText := xm_X_InvalidText (l := l) (w := w) (base := base) X G h_InvalidText FN_WayError FN_InvalidText xb_InvalidText b_super tp_any top_super
    have XK_InvalidText_0 := xm_XK_InvalidText_0 (l := l) (w := w) (base := base) X G X_InvalidText FN_WayError FN_InvalidText xb_InvalidText b_super tp_any top_super
    have X_InvalidProgram := xm_X_InvalidProgram (l := l) (w := w) (base := base) X G h_InvalidProgram FN_WayError FN_InvalidProgram xb_InvalidProgram b_super tp_any top_super
    have X_InvalidPlan := xm_X_InvalidPlan (l := l) (w := w) (base := base) X G h_InvalidPlan FN_WayError FN_InvalidPlan xb_InvalidPlan b_super tp_any top_super
    have XK_InvalidPlan_0 := xm_XK_InvalidPlan_0 (l := l) (w := w) (base := base) X G X_InvalidPlan FN_WayError FN_InvalidPlan xb_InvalidPlan b_super tp_any top_super
    have X_EmptyLoop := xm_X_EmptyLoop (l := l) (w := w) (base := base) X G h_EmptyLoop FN_WayError FN_EmptyLoop xb_EmptyLoop b_super tp_any top_super
    have X_InvalidStep := xm_X_InvalidStep (l := l) (w := w) (base := base) X G h_InvalidStep FN_WayError FN_InvalidStep xb_InvalidStep b_super tp_any top_super
    have X_InvalidReader := xm_X_InvalidReader (l := l) (w := w) (base := base) X G h_InvalidReader FN_WayError FN_InvalidReader xb_InvalidReader b_super tp_any top_super
    have XK_InvalidReader_0 := xm_XK_InvalidReader_0 (l := l) (w := w) (base := base) X G X_InvalidReader FN_WayError FN_InvalidReader xb_InvalidReader b_super tp_any top_super
    have X_WorldsDiffer := xm_X_WorldsDiffer (l := l) (w := w) (base := base) X G h_WorldsDiffer FN_WayError FN_WorldsDiffer xb_WorldsDiffer b_super tp_any top_super
    have X_TooMany := xm_X_TooMany (l := l) (w := w) (base := base) X G h_TooMany FN_WayError FN_TooMany xb_TooMany b_super tp_any top_super
    have XK_TooMany_0 := xm_XK_TooMany_0 (l := l) (w := w) (base := base) X G X_TooMany FN_WayError FN_TooMany xb_TooMany b_super tp_any top_super
    have X_InvalidName := xm_X_InvalidName (l := l) (w := w) (base := base) X G h_InvalidName FN_WayError FN_InvalidName xb_InvalidName b_super tp_any top_super
    have X_WrongKind := xm_X_WrongKind (l := l) (w := w) (base := base) X G h_WrongKind FN_WayError FN_WrongKind xb_WrongKind b_super tp_any top_super
    have XK_WrongKind_0 := xm_XK_WrongKind_0 (l := l) (w := w) (base := base) X G X_WrongKind FN_WayError FN_WrongKind xb_WrongKind b_super tp_any top_super
    have X_CircularName := xm_X_CircularName (l := l) (w := w) (base := base) X G h_CircularName FN_WayError FN_CircularName xb_CircularName b_super tp_any top_super
    have X_InUse := xm_X_InUse (l := l) (w := w) (base := base) X G h_InUse FN_WayError FN_InUse xb_InUse b_super tp_any top_super
    have XK_InUse_0 := xm_XK_InUse_0 (l := l) (w := w) (base := base) X G X_InUse FN_WayError FN_InUse xb_InUse b_super tp_any top_super
    have X_Breaks := xm_X_Breaks (l := l) (w := w) (base := base) X G h_Breaks FN_WayError FN_Breaks xb_Breaks b_super tp_any top_super
    have XK_Breaks_0 := xm_XK_Breaks_0 (l := l) (w := w) (base := base) X G X_Breaks FN_WayError FN_Breaks xb_Breaks b_super tp_any top_super
    have X_CapacityExceeded := xm_X_CapacityExceeded (l := l) (w := w) (base := base) X G h_CapacityExceeded FN_WayError FN_CapacityExceeded xb_CapacityExceeded b_super tp_any top_super
    have X_InvalidLimit := xm_X_InvalidLimit (l := l) (w := w) (base := base) X G h_InvalidLimit FN_WayError FN_InvalidLimit xb_InvalidLimit b_super tp_any top_super
    have X_InvalidCommand := xm_X_InvalidCommand (l := l) (w := w) (base := base) X G h_InvalidCommand FN_WayError FN_InvalidCommand xb_InvalidCommand b_super tp_any top_super
    have XK_InvalidCommand_0 := xm_XK_InvalidCommand_0 (l := l) (w := w) (base := base) X G X_InvalidCommand FN_WayError FN_InvalidCommand xb_InvalidCommand b_super tp_any top_super
    have X_InvalidPage := xm_X_InvalidPage (l := l) (w := w) (base := base) X G h_InvalidPage FN_WayError FN_InvalidPage xb_InvalidPage b_super tp_any top_super
    have XK_InvalidPage_0 := xm_XK_InvalidPage_0 (l := l) (w := w) (base := base) X G X_InvalidPage FN_WayError FN_InvalidPage xb_InvalidPage b_super tp_any top_super
    have X_UnknownName := xm_X_UnknownName (l := l) (w := w) (base := base) X G h_UnknownName FN_UnknownName FN_Missing xb_UnknownName b_super tp_any top_super
    have X_NothingLeft := xm_X_NothingLeft (l := l) (w := w) (base := base) X G h_NothingLeft FN_NothingLeft xb_NothingLeft b_super tp_any top_super
    have O__law_all := o__law_all (P := l.prog) (w := w) (base := base) T F__law_all X_InvalidRatio X_InvalidWorld X_InvalidElement X_InvalidText X_InvalidProgram X_InvalidPlan X_EmptyLoop X_InvalidStep X_InvalidReader X_WorldsDiffer X_TooMany X_InvalidName X_WrongKind X_CircularName X_InUse X_Breaks X_CapacityExceeded X_InvalidLimit X_InvalidCommand X_InvalidPage X_UnknownName X_NothingLeft XK_InUse_0 XK_InvalidCommand_0 XK_InvalidPage_0 XK_InvalidPlan_0 XK_InvalidReader_0 XK_InvalidText_0 XK_InvalidWorld_0 XK_TooMany_0 XK_WrongKind_0
    have Z__law_all := d__law_all F__law_all O__law_all
    have O__law_bag := o__law_bag (P := l.prog) (w := w) (base := base) T F__law_bag 
    have Z__law_bag := d__law_bag F__law_bag O__law_bag
    have O__law_field := o__law_field (P := l.prog) (w := w) (base := base) T F__law_field 
    have Z__law_field := d__law_field F__law_field O__law_field
    have O__law_flags := o__law_flags (P := l.prog) (w := w) (base := base) T F__law_flags 
    have Z__law_flags := d__law_flags F__law_flags O__law_flags
    have O__law_pick := o__law_pick (P := l.prog) (w := w) (base := base) T F__law_pick 
    have Z__law_pick := d__law_pick F__law_pick O__law_pick
    have O__law_of := o__law_of (P := l.prog) (w := w) (base := base) T F__law_of Z__law_pick
    have Z__law_of := d__law_of F__law_of O__law_of
    have Z__law_same := d__law_same (P := l.prog) (w := w) (base := base) T F__law_same  12
    exact law_fn (o_law (P := l.prog) (w := w) (base := base) T F_law Z__law_all Z__law_bag Z__law_field Z__law_flags Z__law_of Z__law_same X_Breaks XK_Breaks_0) law_ok
end K01
namespace K01
open PySem PySem.Spec L2 Z
section
variable {S : Store} {P X : D → Store → Prop} {v v0 v1 v2 : D} {c : Str} {ns : List Str} {ds : List D} {t : D}
abbrev TG : List String := ["InvalidRatio", "InvalidWorld", "InvalidElement", "InvalidText", "InvalidProgram", "InvalidPlan", "EmptyLoop", "InvalidStep", "InvalidReader", "WorldsDiffer", "TooMany", "InvalidName", "WrongKind", "CircularName", "InUse", "Breaks", "CapacityExceeded", "InvalidLimit", "InvalidCommand", "InvalidPage", "UnknownName", "NothingLeft"]
abbrev ALL : List Str := ["InvalidRatio", "InvalidWorld", "InvalidElement", "InvalidText", "InvalidProgram", "InvalidPlan", "EmptyLoop", "InvalidStep", "InvalidReader", "WorldsDiffer", "TooMany", "InvalidName", "WrongKind", "CircularName", "InUse", "Breaks", "CapacityExceeded", "InvalidLimit", "InvalidCommand", "InvalidPage", "UnknownName", "NothingLeft"]
theorem isiE_mem {c0 : Str ⊕ String} {yes no : List Str} (h : isCls t c0 = true) (h2 : c ∈ yes ∨ c ∈ no) : isiE c0 yes no [.exc c ns ds, t] S = .ok (.bl (decide (c ∈ yes))) S := by
  show (if isCls t c0 = true then (if c ∈ yes then Out.ok (D.bl true) S else if c ∈ no then Out.ok (D.bl false) S else Out.bad) else Out.bad) = _
  rw [if_pos h]
  by_cases h3 : c ∈ yes
  · rw [if_pos h3, decide_eq_true h3]
  · rw [if_neg h3, if_pos (h2.resolve_left h3), decide_eq_false h3]
theorem al_0 : ∀ c ∈ ALL, c ∈ (["InvalidRatio"] : List Str) ∨ c ∈ (["InvalidWorld", "InvalidElement", "InvalidText", "InvalidProgram", "InvalidPlan", "EmptyLoop", "InvalidStep", "InvalidReader", "WorldsDiffer", "TooMany", "InvalidName", "WrongKind", "CircularName", "InUse", "Breaks", "CapacityExceeded", "InvalidLimit", "InvalidCommand", "InvalidPage", "UnknownName", "NothingLeft"] : List Str) := by decide +kernel
theorem ix_0 (hc : c ∈ ALL) : isiE (.inl "InvalidRatio") ["InvalidRatio"] ["InvalidWorld", "InvalidElement", "InvalidText", "InvalidProgram", "InvalidPlan", "EmptyLoop", "InvalidStep", "InvalidReader", "WorldsDiffer", "TooMany", "InvalidName", "WrongKind", "CircularName", "InUse", "Breaks", "CapacityExceeded", "InvalidLimit", "InvalidCommand", "InvalidPage", "UnknownName", "NothingLeft"] [.exc c ns ds, .cls "InvalidRatio"] S = .ok (.bl (decide (c ∈ (["InvalidRatio"] : List Str)))) S := isiE_mem (by simp [isCls]) (al_0 c hc)
theorem al_1 : ∀ c ∈ ALL, c ∈ (["InvalidWorld"] : List Str) ∨ c ∈ (["InvalidRatio", "InvalidElement", "InvalidText", "InvalidProgram", "InvalidPlan", "EmptyLoop", "InvalidStep", "InvalidReader", "WorldsDiffer", "TooMany", "InvalidName", "WrongKind", "CircularName", "InUse", "Breaks", "CapacityExceeded", "InvalidLimit", "InvalidCommand", "InvalidPage", "UnknownName", "NothingLeft"] : List Str) := by decide +kernel
theorem ix_1 (hc : c ∈ ALL) : isiE (.inl "InvalidWorld") ["InvalidWorld"] ["InvalidRatio", "InvalidElement", "InvalidText", "InvalidProgram", "InvalidPlan", "EmptyLoop", "InvalidStep", "InvalidReader", "WorldsDiffer", "TooMany", "InvalidName", "WrongKind", "CircularName", "InUse", "Breaks", "CapacityExceeded", "InvalidLimit", "InvalidCommand", "InvalidPage", "UnknownName", "NothingLeft"] [.exc c ns ds, .cls "InvalidWorld"] S = .ok (.bl (decide (c ∈ (["InvalidWorld"] : List Str)))) S := isiE_mem (by simp [isCls]) (al_1 c hc)
theorem al_2 : ∀ c ∈ ALL, c ∈ (["InvalidElement"] : List Str) ∨ c ∈ (["InvalidRatio", "InvalidWorld", "InvalidText", "InvalidProgram", "InvalidPlan", "EmptyLoop", "InvalidStep", "InvalidReader", "WorldsDiffer", "TooMany", "InvalidName", "WrongKind", "CircularName", "InUse", "Breaks", "CapacityExceeded", "InvalidLimit", "InvalidCommand", "InvalidPage", "UnknownName", "NothingLeft"] : List Str) := by decide +kernel
theorem ix_2 (hc : c ∈ ALL) : isiE (.inl "InvalidElement") ["InvalidElement"] ["InvalidRatio", "InvalidWorld", "InvalidText", "InvalidProgram", "InvalidPlan", "EmptyLoop", "InvalidStep", "InvalidReader", "WorldsDiffer", "TooMany", "InvalidName", "WrongKind", "CircularName", "InUse", "Breaks", "CapacityExceeded", "InvalidLimit", "InvalidCommand", "InvalidPage", "UnknownName", "NothingLeft"] [.exc c ns ds, .cls "InvalidElement"] S = .ok (.bl (decide (c ∈ (["InvalidElement"] : List Str)))) S := isiE_mem (by simp [isCls]) (al_2 c hc)
theorem al_3 : ∀ c ∈ ALL, c ∈ (["InvalidText"] : List Str) ∨ c ∈ (["InvalidRatio", "InvalidWorld", "InvalidElement", "InvalidProgram", "InvalidPlan", "EmptyLoop", "InvalidStep", "InvalidReader", "WorldsDiffer", "TooMany", "InvalidName", "WrongKind", "CircularName", "InUse", "Breaks", "CapacityExceeded", "InvalidLimit", "InvalidCommand", "InvalidPage", "UnknownName", "NothingLeft"] : List Str) := by decide +kernel
theorem ix_3 (hc : c ∈ ALL) : isiE (.inl "InvalidText") ["InvalidText"] ["InvalidRatio", "InvalidWorld", "InvalidElement", "InvalidProgram", "InvalidPlan", "EmptyLoop", "InvalidStep", "InvalidReader", "WorldsDiffer", "TooMany", "InvalidName", "WrongKind", "CircularName", "InUse", "Breaks", "CapacityExceeded", "InvalidLimit", "InvalidCommand", "InvalidPage", "UnknownName", "NothingLeft"] [.exc c ns ds, .cls "InvalidText"] S = .ok (.bl (decide (c ∈ (["InvalidText"] : List Str)))) S := isiE_mem (by simp [isCls]) (al_3 c hc)
theorem al_4 : ∀ c ∈ ALL, c ∈ (["InvalidProgram"] : List Str) ∨ c ∈ (["InvalidRatio", "InvalidWorld", "InvalidElement", "InvalidText", "InvalidPlan", "EmptyLoop", "InvalidStep", "InvalidReader", "WorldsDiffer", "TooMany", "InvalidName", "WrongKind", "CircularName", "InUse", "Breaks", "CapacityExceeded", "InvalidLimit", "InvalidCommand", "InvalidPage", "UnknownName", "NothingLeft"] : List Str) := by decide +kernel
theorem ix_4 (hc : c ∈ ALL) : isiE (.inl "InvalidProgram") ["InvalidProgram"] ["InvalidRatio", "InvalidWorld", "InvalidElement", "InvalidText", "InvalidPlan", "EmptyLoop", "InvalidStep", "InvalidReader", "WorldsDiffer", "TooMany", "InvalidName", "WrongKind", "CircularName", "InUse", "Breaks", "CapacityExceeded", "InvalidLimit", "InvalidCommand", "InvalidPage", "UnknownName", "NothingLeft"] [.exc c ns ds, .cls "InvalidProgram"] S = .ok (.bl (decide (c ∈ (["InvalidProgram"] : List Str)))) S := isiE_mem (by simp [isCls]) (al_4 c hc)
theorem al_5 : ∀ c ∈ ALL, c ∈ (["InvalidPlan"] : List Str) ∨ c ∈ (["InvalidRatio", "InvalidWorld", "InvalidElement", "InvalidText", "InvalidProgram", "EmptyLoop", "InvalidStep", "InvalidReader", "WorldsDiffer", "TooMany", "InvalidName", "WrongKind", "CircularName", "InUse", "Breaks", "CapacityExceeded", "InvalidLimit", "InvalidCommand", "InvalidPage", "UnknownName", "NothingLeft"] : List Str) := by decide +kernel
theorem ix_5 (hc : c ∈ ALL) : isiE (.inl "InvalidPlan") ["InvalidPlan"] ["InvalidRatio", "InvalidWorld", "InvalidElement", "InvalidText", "InvalidProgram", "EmptyLoop", "InvalidStep", "InvalidReader", "WorldsDiffer", "TooMany", "InvalidName", "WrongKind", "CircularName", "InUse", "Breaks", "CapacityExceeded", "InvalidLimit", "InvalidCommand", "InvalidPage", "UnknownName", "NothingLeft"] [.exc c ns ds, .cls "InvalidPlan"] S = .ok (.bl (decide (c ∈ (["InvalidPlan"] : List Str)))) S := isiE_mem (by simp [isCls]) (al_5 c hc)
theorem al_6 : ∀ c ∈ ALL, c ∈ (["EmptyLoop"] : List Str) ∨ c ∈ (["InvalidRatio", "InvalidWorld", "InvalidElement", "InvalidText", "InvalidProgram", "InvalidPlan", "InvalidStep", "InvalidReader", "WorldsDiffer", "TooMany", "InvalidName", "WrongKind", "CircularName", "InUse", "Breaks", "CapacityExceeded", "InvalidLimit", "InvalidCommand", "InvalidPage", "UnknownName", "NothingLeft"] : List Str) := by decide +kernel
theorem ix_6 (hc : c ∈ ALL) : isiE (.inl "EmptyLoop") ["EmptyLoop"] ["InvalidRatio", "InvalidWorld", "InvalidElement", "InvalidText", "InvalidProgram", "InvalidPlan", "InvalidStep", "InvalidReader", "WorldsDiffer", "TooMany", "InvalidName", "WrongKind", "CircularName", "InUse", "Breaks", "CapacityExceeded", "InvalidLimit", "InvalidCommand", "InvalidPage", "UnknownName", "NothingLeft"] [.exc c ns ds, .cls "EmptyLoop"] S = .ok (.bl (decide (c ∈ (["EmptyLoop"] : List Str)))) S := isiE_mem (by simp [isCls]) (al_6 c hc)
theorem al_7 : ∀ c ∈ ALL, c ∈ (["InvalidStep"] : List Str) ∨ c ∈ (["InvalidRatio", "InvalidWorld", "InvalidElement", "InvalidText", "InvalidProgram", "InvalidPlan", "EmptyLoop", "InvalidReader", "WorldsDiffer", "TooMany", "InvalidName", "WrongKind", "CircularName", "InUse", "Breaks", "CapacityExceeded", "InvalidLimit", "InvalidCommand", "InvalidPage", "UnknownName", "NothingLeft"] : List Str) := by decide +kernel
theorem ix_7 (hc : c ∈ ALL) : isiE (.inl "InvalidStep") ["InvalidStep"] ["InvalidRatio", "InvalidWorld", "InvalidElement", "InvalidText", "InvalidProgram", "InvalidPlan", "EmptyLoop", "InvalidReader", "WorldsDiffer", "TooMany", "InvalidName", "WrongKind", "CircularName", "InUse", "Breaks", "CapacityExceeded", "InvalidLimit", "InvalidCommand", "InvalidPage", "UnknownName", "NothingLeft"] [.exc c ns ds, .cls "InvalidStep"] S = .ok (.bl (decide (c ∈ (["InvalidStep"] : List Str)))) S := isiE_mem (by simp [isCls]) (al_7 c hc)
theorem al_8 : ∀ c ∈ ALL, c ∈ (["InvalidReader"] : List Str) ∨ c ∈ (["InvalidRatio", "InvalidWorld", "InvalidElement", "InvalidText", "InvalidProgram", "InvalidPlan", "EmptyLoop", "InvalidStep", "WorldsDiffer", "TooMany", "InvalidName", "WrongKind", "CircularName", "InUse", "Breaks", "CapacityExceeded", "InvalidLimit", "InvalidCommand", "InvalidPage", "UnknownName", "NothingLeft"] : List Str) := by decide +kernel
theorem ix_8 (hc : c ∈ ALL) : isiE (.inl "InvalidReader") ["InvalidReader"] ["InvalidRatio", "InvalidWorld", "InvalidElement", "InvalidText", "InvalidProgram", "InvalidPlan", "EmptyLoop", "InvalidStep", "WorldsDiffer", "TooMany", "InvalidName", "WrongKind", "CircularName", "InUse", "Breaks", "CapacityExceeded", "InvalidLimit", "InvalidCommand", "InvalidPage", "UnknownName", "NothingLeft"] [.exc c ns ds, .cls "InvalidReader"] S = .ok (.bl (decide (c ∈ (["InvalidReader"] : List Str)))) S := isiE_mem (by simp [isCls]) (al_8 c hc)
theorem al_9 : ∀ c ∈ ALL, c ∈ (["WorldsDiffer"] : List Str) ∨ c ∈ (["InvalidRatio", "InvalidWorld", "InvalidElement", "InvalidText", "InvalidProgram", "InvalidPlan", "EmptyLoop", "InvalidStep", "InvalidReader", "TooMany", "InvalidName", "WrongKind", "CircularName", "InUse", "Breaks", "CapacityExceeded", "InvalidLimit", "InvalidCommand", "InvalidPage", "UnknownName", "NothingLeft"] : List Str) := by decide +kernel
theorem ix_9 (hc : c ∈ ALL) : isiE (.inl "WorldsDiffer") ["WorldsDiffer"] ["InvalidRatio", "InvalidWorld", "InvalidElement", "InvalidText", "InvalidProgram", "InvalidPlan", "EmptyLoop", "InvalidStep", "InvalidReader", "TooMany", "InvalidName", "WrongKind", "CircularName", "InUse", "Breaks", "CapacityExceeded", "InvalidLimit", "InvalidCommand", "InvalidPage", "UnknownName", "NothingLeft"] [.exc c ns ds, .cls "WorldsDiffer"] S = .ok (.bl (decide (c ∈ (["WorldsDiffer"] : List Str)))) S := isiE_mem (by simp [isCls]) (al_9 c hc)
theorem al_10 : ∀ c ∈ ALL, c ∈ (["TooMany"] : List Str) ∨ c ∈ (["InvalidRatio", "InvalidWorld", "InvalidElement", "InvalidText", "InvalidProgram", "InvalidPlan", "EmptyLoop", "InvalidStep", "InvalidReader", "WorldsDiffer", "InvalidName", "WrongKind", "CircularName", "InUse", "Breaks", "CapacityExceeded", "InvalidLimit", "InvalidCommand", "InvalidPage", "UnknownName", "NothingLeft"] : List Str) := by decide +kernel
theorem ix_10 (hc : c ∈ ALL) : isiE (.inl "TooMany") ["TooMany"] ["InvalidRatio", "InvalidWorld", "InvalidElement", "InvalidText", "InvalidProgram", "InvalidPlan", "EmptyLoop", "InvalidStep", "InvalidReader", "WorldsDiffer", "InvalidName", "WrongKind", "CircularName", "InUse", "Breaks", "CapacityExceeded", "InvalidLimit", "InvalidCommand", "InvalidPage", "UnknownName", "NothingLeft"] [.exc c ns ds, .cls "TooMany"] S = .ok (.bl (decide (c ∈ (["TooMany"] : List Str)))) S := isiE_mem (by simp [isCls]) (al_10 c hc)
theorem al_11 : ∀ c ∈ ALL, c ∈ (["InvalidName"] : List Str) ∨ c ∈ (["InvalidRatio", "InvalidWorld", "InvalidElement", "InvalidText", "InvalidProgram", "InvalidPlan", "EmptyLoop", "InvalidStep", "InvalidReader", "WorldsDiffer", "TooMany", "WrongKind", "CircularName", "InUse", "Breaks", "CapacityExceeded", "InvalidLimit", "InvalidCommand", "InvalidPage", "UnknownName", "NothingLeft"] : List Str) := by decide +kernel
theorem ix_11 (hc : c ∈ ALL) : isiE (.inl "InvalidName") ["InvalidName"] ["InvalidRatio", "InvalidWorld", "InvalidElement", "InvalidText", "InvalidProgram", "InvalidPlan", "EmptyLoop", "InvalidStep", "InvalidReader", "WorldsDiffer", "TooMany", "WrongKind", "CircularName", "InUse", "Breaks", "CapacityExceeded", "InvalidLimit", "InvalidCommand", "InvalidPage", "UnknownName", "NothingLeft"] [.exc c ns ds, .cls "InvalidName"] S = .ok (.bl (decide (c ∈ (["InvalidName"] : List Str)))) S := isiE_mem (by simp [isCls]) (al_11 c hc)
theorem al_12 : ∀ c ∈ ALL, c ∈ (["WrongKind"] : List Str) ∨ c ∈ (["InvalidRatio", "InvalidWorld", "InvalidElement", "InvalidText", "InvalidProgram", "InvalidPlan", "EmptyLoop", "InvalidStep", "InvalidReader", "WorldsDiffer", "TooMany", "InvalidName", "CircularName", "InUse", "Breaks", "CapacityExceeded", "InvalidLimit", "InvalidCommand", "InvalidPage", "UnknownName", "NothingLeft"] : List Str) := by decide +kernel
theorem ix_12 (hc : c ∈ ALL) : isiE (.inl "WrongKind") ["WrongKind"] ["InvalidRatio", "InvalidWorld", "InvalidElement", "InvalidText", "InvalidProgram", "InvalidPlan", "EmptyLoop", "InvalidStep", "InvalidReader", "WorldsDiffer", "TooMany", "InvalidName", "CircularName", "InUse", "Breaks", "CapacityExceeded", "InvalidLimit", "InvalidCommand", "InvalidPage", "UnknownName", "NothingLeft"] [.exc c ns ds, .cls "WrongKind"] S = .ok (.bl (decide (c ∈ (["WrongKind"] : List Str)))) S := isiE_mem (by simp [isCls]) (al_12 c hc)
theorem al_13 : ∀ c ∈ ALL, c ∈ (["CircularName"] : List Str) ∨ c ∈ (["InvalidRatio", "InvalidWorld", "InvalidElement", "InvalidText", "InvalidProgram", "InvalidPlan", "EmptyLoop", "InvalidStep", "InvalidReader", "WorldsDiffer", "TooMany", "InvalidName", "WrongKind", "InUse", "Breaks", "CapacityExceeded", "InvalidLimit", "InvalidCommand", "InvalidPage", "UnknownName", "NothingLeft"] : List Str) := by decide +kernel
theorem ix_13 (hc : c ∈ ALL) : isiE (.inl "CircularName") ["CircularName"] ["InvalidRatio", "InvalidWorld", "InvalidElement", "InvalidText", "InvalidProgram", "InvalidPlan", "EmptyLoop", "InvalidStep", "InvalidReader", "WorldsDiffer", "TooMany", "InvalidName", "WrongKind", "InUse", "Breaks", "CapacityExceeded", "InvalidLimit", "InvalidCommand", "InvalidPage", "UnknownName", "NothingLeft"] [.exc c ns ds, .cls "CircularName"] S = .ok (.bl (decide (c ∈ (["CircularName"] : List Str)))) S := isiE_mem (by simp [isCls]) (al_13 c hc)
theorem al_14 : ∀ c ∈ ALL, c ∈ (["InUse"] : List Str) ∨ c ∈ (["InvalidRatio", "InvalidWorld", "InvalidElement", "InvalidText", "InvalidProgram", "InvalidPlan", "EmptyLoop", "InvalidStep", "InvalidReader", "WorldsDiffer", "TooMany", "InvalidName", "WrongKind", "CircularName", "Breaks", "CapacityExceeded", "InvalidLimit", "InvalidCommand", "InvalidPage", "UnknownName", "NothingLeft"] : List Str) := by decide +kernel
theorem ix_14 (hc : c ∈ ALL) : isiE (.inl "InUse") ["InUse"] ["InvalidRatio", "InvalidWorld", "InvalidElement", "InvalidText", "InvalidProgram", "InvalidPlan", "EmptyLoop", "InvalidStep", "InvalidReader", "WorldsDiffer", "TooMany", "InvalidName", "WrongKind", "CircularName", "Breaks", "CapacityExceeded", "InvalidLimit", "InvalidCommand", "InvalidPage", "UnknownName", "NothingLeft"] [.exc c ns ds, .cls "InUse"] S = .ok (.bl (decide (c ∈ (["InUse"] : List Str)))) S := isiE_mem (by simp [isCls]) (al_14 c hc)
theorem al_15 : ∀ c ∈ ALL, c ∈ (["Breaks"] : List Str) ∨ c ∈ (["InvalidRatio", "InvalidWorld", "InvalidElement", "InvalidText", "InvalidProgram", "InvalidPlan", "EmptyLoop", "InvalidStep", "InvalidReader", "WorldsDiffer", "TooMany", "InvalidName", "WrongKind", "CircularName", "InUse", "CapacityExceeded", "InvalidLimit", "InvalidCommand", "InvalidPage", "UnknownName", "NothingLeft"] : List Str) := by decide +kernel
theorem ix_15 (hc : c ∈ ALL) : isiE (.inl "Breaks") ["Breaks"] ["InvalidRatio", "InvalidWorld", "InvalidElement", "InvalidText", "InvalidProgram", "InvalidPlan", "EmptyLoop", "InvalidStep", "InvalidReader", "WorldsDiffer", "TooMany", "InvalidName", "WrongKind", "CircularName", "InUse", "CapacityExceeded", "InvalidLimit", "InvalidCommand", "InvalidPage", "UnknownName", "NothingLeft"] [.exc c ns ds, .cls "Breaks"] S = .ok (.bl (decide (c ∈ (["Breaks"] : List Str)))) S := isiE_mem (by simp [isCls]) (al_15 c hc)
theorem al_16 : ∀ c ∈ ALL, c ∈ (["CapacityExceeded"] : List Str) ∨ c ∈ (["InvalidRatio", "InvalidWorld", "InvalidElement", "InvalidText", "InvalidProgram", "InvalidPlan", "EmptyLoop", "InvalidStep", "InvalidReader", "WorldsDiffer", "TooMany", "InvalidName", "WrongKind", "CircularName", "InUse", "Breaks", "InvalidLimit", "InvalidCommand", "InvalidPage", "UnknownName", "NothingLeft"] : List Str) := by decide +kernel
theorem ix_16 (hc : c ∈ ALL) : isiE (.inl "CapacityExceeded") ["CapacityExceeded"] ["InvalidRatio", "InvalidWorld", "InvalidElement", "InvalidText", "InvalidProgram", "InvalidPlan", "EmptyLoop", "InvalidStep", "InvalidReader", "WorldsDiffer", "TooMany", "InvalidName", "WrongKind", "CircularName", "InUse", "Breaks", "InvalidLimit", "InvalidCommand", "InvalidPage", "UnknownName", "NothingLeft"] [.exc c ns ds, .cls "CapacityExceeded"] S = .ok (.bl (decide (c ∈ (["CapacityExceeded"] : List Str)))) S := isiE_mem (by simp [isCls]) (al_16 c hc)
theorem al_17 : ∀ c ∈ ALL, c ∈ (["InvalidLimit"] : List Str) ∨ c ∈ (["InvalidRatio", "InvalidWorld", "InvalidElement", "InvalidText", "InvalidProgram", "InvalidPlan", "EmptyLoop", "InvalidStep", "InvalidReader", "WorldsDiffer", "TooMany", "InvalidName", "WrongKind", "CircularName", "InUse", "Breaks", "CapacityExceeded", "InvalidCommand", "InvalidPage", "UnknownName", "NothingLeft"] : List Str) := by decide +kernel
theorem ix_17 (hc : c ∈ ALL) : isiE (.inl "InvalidLimit") ["InvalidLimit"] ["InvalidRatio", "InvalidWorld", "InvalidElement", "InvalidText", "InvalidProgram", "InvalidPlan", "EmptyLoop", "InvalidStep", "InvalidReader", "WorldsDiffer", "TooMany", "InvalidName", "WrongKind", "CircularName", "InUse", "Breaks", "CapacityExceeded", "InvalidCommand", "InvalidPage", "UnknownName", "NothingLeft"] [.exc c ns ds, .cls "InvalidLimit"] S = .ok (.bl (decide (c ∈ (["InvalidLimit"] : List Str)))) S := isiE_mem (by simp [isCls]) (al_17 c hc)
theorem al_18 : ∀ c ∈ ALL, c ∈ (["InvalidCommand"] : List Str) ∨ c ∈ (["InvalidRatio", "InvalidWorld", "InvalidElement", "InvalidText", "InvalidProgram", "InvalidPlan", "EmptyLoop", "InvalidStep", "InvalidReader", "WorldsDiffer", "TooMany", "InvalidName", "WrongKind", "CircularName", "InUse", "Breaks", "CapacityExceeded", "InvalidLimit", "InvalidPage", "UnknownName", "NothingLeft"] : List Str) := by decide +kernel
theorem ix_18 (hc : c ∈ ALL) : isiE (.inl "InvalidCommand") ["InvalidCommand"] ["InvalidRatio", "InvalidWorld", "InvalidElement", "InvalidText", "InvalidProgram", "InvalidPlan", "EmptyLoop", "InvalidStep", "InvalidReader", "WorldsDiffer", "TooMany", "InvalidName", "WrongKind", "CircularName", "InUse", "Breaks", "CapacityExceeded", "InvalidLimit", "InvalidPage", "UnknownName", "NothingLeft"] [.exc c ns ds, .cls "InvalidCommand"] S = .ok (.bl (decide (c ∈ (["InvalidCommand"] : List Str)))) S := isiE_mem (by simp [isCls]) (al_18 c hc)
theorem al_19 : ∀ c ∈ ALL, c ∈ (["InvalidPage"] : List Str) ∨ c ∈ (["InvalidRatio", "InvalidWorld", "InvalidElement", "InvalidText", "InvalidProgram", "InvalidPlan", "EmptyLoop", "InvalidStep", "InvalidReader", "WorldsDiffer", "TooMany", "InvalidName", "WrongKind", "CircularName", "InUse", "Breaks", "CapacityExceeded", "InvalidLimit", "InvalidCommand", "UnknownName", "NothingLeft"] : List Str) := by decide +kernel
theorem ix_19 (hc : c ∈ ALL) : isiE (.inl "InvalidPage") ["InvalidPage"] ["InvalidRatio", "InvalidWorld", "InvalidElement", "InvalidText", "InvalidProgram", "InvalidPlan", "EmptyLoop", "InvalidStep", "InvalidReader", "WorldsDiffer", "TooMany", "InvalidName", "WrongKind", "CircularName", "InUse", "Breaks", "CapacityExceeded", "InvalidLimit", "InvalidCommand", "UnknownName", "NothingLeft"] [.exc c ns ds, .cls "InvalidPage"] S = .ok (.bl (decide (c ∈ (["InvalidPage"] : List Str)))) S := isiE_mem (by simp [isCls]) (al_19 c hc)
theorem al_20 : ∀ c ∈ ALL, c ∈ (["UnknownName"] : List Str) ∨ c ∈ (["InvalidRatio", "InvalidWorld", "InvalidElement", "InvalidText", "InvalidProgram", "InvalidPlan", "EmptyLoop", "InvalidStep", "InvalidReader", "WorldsDiffer", "TooMany", "InvalidName", "WrongKind", "CircularName", "InUse", "Breaks", "CapacityExceeded", "InvalidLimit", "InvalidCommand", "InvalidPage", "NothingLeft"] : List Str) := by decide +kernel
theorem ix_20 (hc : c ∈ ALL) : isiE (.inl "UnknownName") ["UnknownName"] ["InvalidRatio", "InvalidWorld", "InvalidElement", "InvalidText", "InvalidProgram", "InvalidPlan", "EmptyLoop", "InvalidStep", "InvalidReader", "WorldsDiffer", "TooMany", "InvalidName", "WrongKind", "CircularName", "InUse", "Breaks", "CapacityExceeded", "InvalidLimit", "InvalidCommand", "InvalidPage", "NothingLeft"] [.exc c ns ds, .cls "UnknownName"] S = .ok (.bl (decide (c ∈ (["UnknownName"] : List Str)))) S := isiE_mem (by simp [isCls]) (al_20 c hc)
theorem al_21 : ∀ c ∈ ALL, c ∈ (["NothingLeft"] : List Str) ∨ c ∈ (["InvalidRatio", "InvalidWorld", "InvalidElement", "InvalidText", "InvalidProgram", "InvalidPlan", "EmptyLoop", "InvalidStep", "InvalidReader", "WorldsDiffer", "TooMany", "InvalidName", "WrongKind", "CircularName", "InUse", "Breaks", "CapacityExceeded", "InvalidLimit", "InvalidCommand", "InvalidPage", "UnknownName"] : List Str) := by decide +kernel
theorem ix_21 (hc : c ∈ ALL) : isiE (.inl "NothingLeft") ["NothingLeft"] ["InvalidRatio", "InvalidWorld", "InvalidElement", "InvalidText", "InvalidProgram", "InvalidPlan", "EmptyLoop", "InvalidStep", "InvalidReader", "WorldsDiffer", "TooMany", "InvalidName", "WrongKind", "CircularName", "InUse", "Breaks", "CapacityExceeded", "InvalidLimit", "InvalidCommand", "InvalidPage", "UnknownName"] [.exc c ns ds, .cls "NothingLeft"] S = .ok (.bl (decide (c ∈ (["NothingLeft"] : List Str)))) S := isiE_mem (by simp [isCls]) (al_21 c hc)
theorem al_22 : ∀ c ∈ ALL, c ∈ (["InvalidRatio", "InvalidWorld", "InvalidElement", "InvalidText", "InvalidProgram", "InvalidPlan", "EmptyLoop", "InvalidStep", "InvalidReader", "WorldsDiffer", "TooMany", "InvalidName", "WrongKind", "CircularName", "InUse", "Breaks", "CapacityExceeded", "InvalidLimit", "InvalidCommand", "InvalidPage"] : List Str) ∨ c ∈ (["UnknownName", "NothingLeft"] : List Str) := by decide +kernel
theorem ix_22 (hc : c ∈ ALL) : isiE (.inl "WayError") ["InvalidRatio", "InvalidWorld", "InvalidElement", "InvalidText", "InvalidProgram", "InvalidPlan", "EmptyLoop", "InvalidStep", "InvalidReader", "WorldsDiffer", "TooMany", "InvalidName", "WrongKind", "CircularName", "InUse", "Breaks", "CapacityExceeded", "InvalidLimit", "InvalidCommand", "InvalidPage"] ["UnknownName", "NothingLeft"] [.exc c ns ds, .cls "WayError"] S = .ok (.bl (decide (c ∈ (["InvalidRatio", "InvalidWorld", "InvalidElement", "InvalidText", "InvalidProgram", "InvalidPlan", "EmptyLoop", "InvalidStep", "InvalidReader", "WorldsDiffer", "TooMany", "InvalidName", "WrongKind", "CircularName", "InUse", "Breaks", "CapacityExceeded", "InvalidLimit", "InvalidCommand", "InvalidPage"] : List Str)))) S := isiE_mem (by simp [isCls]) (al_22 c hc)
theorem al_23 : ∀ c ∈ ALL, c ∈ (["InvalidRatio", "InvalidWorld", "InvalidElement", "InvalidText", "InvalidProgram", "InvalidPlan", "EmptyLoop", "InvalidStep", "InvalidReader", "WorldsDiffer", "TooMany", "InvalidName", "WrongKind", "CircularName", "InUse", "Breaks", "CapacityExceeded", "InvalidLimit", "InvalidCommand", "InvalidPage"] : List Str) ∨ c ∈ (["UnknownName", "NothingLeft"] : List Str) := by decide +kernel
theorem ix_23 (hc : c ∈ ALL) : isiE (.inr "ValueError") ["InvalidRatio", "InvalidWorld", "InvalidElement", "InvalidText", "InvalidProgram", "InvalidPlan", "EmptyLoop", "InvalidStep", "InvalidReader", "WorldsDiffer", "TooMany", "InvalidName", "WrongKind", "CircularName", "InUse", "Breaks", "CapacityExceeded", "InvalidLimit", "InvalidCommand", "InvalidPage"] ["UnknownName", "NothingLeft"] [.exc c ns ds, .ty "ValueError"] S = .ok (.bl (decide (c ∈ (["InvalidRatio", "InvalidWorld", "InvalidElement", "InvalidText", "InvalidProgram", "InvalidPlan", "EmptyLoop", "InvalidStep", "InvalidReader", "WorldsDiffer", "TooMany", "InvalidName", "WrongKind", "CircularName", "InUse", "Breaks", "CapacityExceeded", "InvalidLimit", "InvalidCommand", "InvalidPage"] : List Str)))) S := isiE_mem (by simp [isCls]) (al_23 c hc)
theorem al_24 : ∀ c ∈ ALL, c ∈ (["UnknownName"] : List Str) ∨ c ∈ (["InvalidRatio", "InvalidWorld", "InvalidElement", "InvalidText", "InvalidProgram", "InvalidPlan", "EmptyLoop", "InvalidStep", "InvalidReader", "WorldsDiffer", "TooMany", "InvalidName", "WrongKind", "CircularName", "InUse", "Breaks", "CapacityExceeded", "InvalidLimit", "InvalidCommand", "InvalidPage", "NothingLeft"] : List Str) := by decide +kernel
theorem ix_24 (hc : c ∈ ALL) : isiE (.inl "Missing") ["UnknownName"] ["InvalidRatio", "InvalidWorld", "InvalidElement", "InvalidText", "InvalidProgram", "InvalidPlan", "EmptyLoop", "InvalidStep", "InvalidReader", "WorldsDiffer", "TooMany", "InvalidName", "WrongKind", "CircularName", "InUse", "Breaks", "CapacityExceeded", "InvalidLimit", "InvalidCommand", "InvalidPage", "NothingLeft"] [.exc c ns ds, .cls "Missing"] S = .ok (.bl (decide (c ∈ (["UnknownName"] : List Str)))) S := isiE_mem (by simp [isCls]) (al_24 c hc)
theorem al_25 : ∀ c ∈ ALL, c ∈ (["UnknownName", "NothingLeft"] : List Str) ∨ c ∈ (["InvalidRatio", "InvalidWorld", "InvalidElement", "InvalidText", "InvalidProgram", "InvalidPlan", "EmptyLoop", "InvalidStep", "InvalidReader", "WorldsDiffer", "TooMany", "InvalidName", "WrongKind", "CircularName", "InUse", "Breaks", "CapacityExceeded", "InvalidLimit", "InvalidCommand", "InvalidPage"] : List Str) := by decide +kernel
theorem ix_25 (hc : c ∈ ALL) : isiE (.inr "LookupError") ["UnknownName", "NothingLeft"] ["InvalidRatio", "InvalidWorld", "InvalidElement", "InvalidText", "InvalidProgram", "InvalidPlan", "EmptyLoop", "InvalidStep", "InvalidReader", "WorldsDiffer", "TooMany", "InvalidName", "WrongKind", "CircularName", "InUse", "Breaks", "CapacityExceeded", "InvalidLimit", "InvalidCommand", "InvalidPage"] [.exc c ns ds, .ty "LookupError"] S = .ok (.bl (decide (c ∈ (["UnknownName", "NothingLeft"] : List Str)))) S := isiE_mem (by simp [isCls]) (al_25 c hc)
theorem al_26 : ∀ c ∈ ALL, c ∈ (["NothingLeft"] : List Str) ∨ c ∈ (["InvalidRatio", "InvalidWorld", "InvalidElement", "InvalidText", "InvalidProgram", "InvalidPlan", "EmptyLoop", "InvalidStep", "InvalidReader", "WorldsDiffer", "TooMany", "InvalidName", "WrongKind", "CircularName", "InUse", "Breaks", "CapacityExceeded", "InvalidLimit", "InvalidCommand", "InvalidPage", "UnknownName"] : List Str) := by decide +kernel
theorem ix_26 (hc : c ∈ ALL) : isiE (.inr "IndexError") ["NothingLeft"] ["InvalidRatio", "InvalidWorld", "InvalidElement", "InvalidText", "InvalidProgram", "InvalidPlan", "EmptyLoop", "InvalidStep", "InvalidReader", "WorldsDiffer", "TooMany", "InvalidName", "WrongKind", "CircularName", "InUse", "Breaks", "CapacityExceeded", "InvalidLimit", "InvalidCommand", "InvalidPage", "UnknownName"] [.exc c ns ds, .ty "IndexError"] S = .ok (.bl (decide (c ∈ (["NothingLeft"] : List Str)))) S := isiE_mem (by simp [isCls]) (al_26 c hc)
def flagsOf (c : Str) : List Bool := [decide (c ∈ (["InvalidRatio"] : List Str)), decide (c ∈ (["InvalidWorld"] : List Str)), decide (c ∈ (["InvalidElement"] : List Str)), decide (c ∈ (["InvalidText"] : List Str)), decide (c ∈ (["InvalidProgram"] : List Str)), decide (c ∈ (["InvalidPlan"] : List Str)), decide (c ∈ (["EmptyLoop"] : List Str)), decide (c ∈ (["InvalidStep"] : List Str)), decide (c ∈ (["InvalidReader"] : List Str)), decide (c ∈ (["WorldsDiffer"] : List Str)), decide (c ∈ (["TooMany"] : List Str)), decide (c ∈ (["InvalidName"] : List Str)), decide (c ∈ (["WrongKind"] : List Str)), decide (c ∈ (["CircularName"] : List Str)), decide (c ∈ (["InUse"] : List Str)), decide (c ∈ (["Breaks"] : List Str)), decide (c ∈ (["CapacityExceeded"] : List Str)), decide (c ∈ (["InvalidLimit"] : List Str)), decide (c ∈ (["InvalidCommand"] : List Str)), decide (c ∈ (["InvalidPage"] : List Str)), decide (c ∈ (["UnknownName"] : List Str)), decide (c ∈ (["NothingLeft"] : List Str)), decide (c ∈ (["InvalidRatio", "InvalidWorld", "InvalidElement", "InvalidText", "InvalidProgram", "InvalidPlan", "EmptyLoop", "InvalidStep", "InvalidReader", "WorldsDiffer", "TooMany", "InvalidName", "WrongKind", "CircularName", "InUse", "Breaks", "CapacityExceeded", "InvalidLimit", "InvalidCommand", "InvalidPage"] : List Str)), decide (c ∈ (["InvalidRatio", "InvalidWorld", "InvalidElement", "InvalidText", "InvalidProgram", "InvalidPlan", "EmptyLoop", "InvalidStep", "InvalidReader", "WorldsDiffer", "TooMany", "InvalidName", "WrongKind", "CircularName", "InUse", "Breaks", "CapacityExceeded", "InvalidLimit", "InvalidCommand", "InvalidPage"] : List Str)), decide (c ∈ (["UnknownName"] : List Str)), decide (c ∈ (["UnknownName", "NothingLeft"] : List Str)), decide (c ∈ (["NothingLeft"] : List Str))]
theorem flags_eq (hc : c ∈ ALL) (hu : underL 0 ds = true) : f__law_flags [.exc c ns ds] S = .ok (.lst ((flagsOf c).map D.bl)) S := by
  refine eq_of_we ?_
  unfold f__law_flags
  refine we_def rfl ?_
  simp [m__law_flags, ix_0 hc, ix_1 hc, ix_2 hc, ix_3 hc, ix_4 hc, ix_5 hc, ix_6 hc, ix_7 hc, ix_8 hc, ix_9 hc, ix_10 hc, ix_11 hc, ix_12 hc, ix_13 hc, ix_14 hc, ix_15 hc, ix_16 hc, ix_17 hc, ix_18 hc, ix_19 hc, ix_20 hc, ix_21 hc, ix_22 hc, ix_23 hc, ix_24 hc, ix_25 hc, ix_26 hc]
  exact finP_same (by simp) ⟨by simp [flagsOf], rfl⟩
theorem lookN_eq {f : Str} : lookN f (f :: ns) (v :: ds) = some v := by simp [lookN]
theorem lookN_ne {f n : Str} (h : f ≠ n) : lookN f (n :: ns) (v :: ds) = lookN f ns ds := by rw [lookN, if_neg h]
theorem in_lits {s : String} {xs : List D} {b : Bool} (h : inD (.str (Str.ofString s)) xs = b) (hx : xs.all flatD = true) : inX (.str (Str.ofString s)) (.tup xs) S = .ok (.bl b) S := by
  rw [inX_sq (xs := xs) rfl rfl hx, h]
theorem fe_0 (h0 : under S.length v0 = true) : f__law_field [.exc "InvalidRatio" ["value", "tag"] [v0, .str "InvalidRatio"]] S = .ok (v0) S := by
  refine eq_of_we ?_
  unfold f__law_field
  refine we_def rfl ?_
  have t0 : ∀ S, inX (.str "InvalidRatio") (.tup [.str "InvalidRatio", .str "InvalidWorld", .str "InvalidElement", .str "InvalidStep", .str "InvalidLimit"]) S = .ok (.bl true) S := fun S => in_lits rfl rfl
  have e0 : lookN "value" ["value", "tag"] [v0, .str "InvalidRatio"] = some (v0) := lookN_eq
  have e1 : lookN "tag" ["value", "tag"] [v0, .str "InvalidRatio"] = some (.str "InvalidRatio") := (lookN_ne (by decide)).trans (lookN_eq)
  simp [m__law_field, t0, e0, e1]
  exact finP_same (by simp [h0]) ⟨rfl, rfl⟩
theorem fe_1 (h1 : under S.length v1 = true) : f__law_field [.exc "InvalidWorld" ["value", "tag"] [v1, .str "InvalidWorld"]] S = .ok (v1) S := by
  refine eq_of_we ?_
  unfold f__law_field
  refine we_def rfl ?_
  have t0 : ∀ S, inX (.str "InvalidWorld") (.tup [.str "InvalidRatio", .str "InvalidWorld", .str "InvalidElement", .str "InvalidStep", .str "InvalidLimit"]) S = .ok (.bl true) S := fun S => in_lits rfl rfl
  have e0 : lookN "value" ["value", "tag"] [v1, .str "InvalidWorld"] = some (v1) := lookN_eq
  have e1 : lookN "tag" ["value", "tag"] [v1, .str "InvalidWorld"] = some (.str "InvalidWorld") := (lookN_ne (by decide)).trans (lookN_eq)
  simp [m__law_field, t0, e0, e1]
  exact finP_same (by simp [h1]) ⟨rfl, rfl⟩
theorem fe_2 (h2 : under S.length v2 = true) : f__law_field [.exc "InvalidElement" ["value", "tag"] [v2, .str "InvalidElement"]] S = .ok (v2) S := by
  refine eq_of_we ?_
  unfold f__law_field
  refine we_def rfl ?_
  have t0 : ∀ S, inX (.str "InvalidElement") (.tup [.str "InvalidRatio", .str "InvalidWorld", .str "InvalidElement", .str "InvalidStep", .str "InvalidLimit"]) S = .ok (.bl true) S := fun S => in_lits rfl rfl
  have e0 : lookN "value" ["value", "tag"] [v2, .str "InvalidElement"] = some (v2) := lookN_eq
  have e1 : lookN "tag" ["value", "tag"] [v2, .str "InvalidElement"] = some (.str "InvalidElement") := (lookN_ne (by decide)).trans (lookN_eq)
  simp [m__law_field, t0, e0, e1]
  exact finP_same (by simp [h2]) ⟨rfl, rfl⟩
theorem fe_3 (h0 : under S.length v0 = true) : f__law_field [.exc "InvalidText" ["given", "tag"] [v0, .str "InvalidText"]] S = .ok (v0) S := by
  refine eq_of_we ?_
  unfold f__law_field
  refine we_def rfl ?_
  have t0 : ∀ S, inX (.str "InvalidText") (.tup [.str "InvalidRatio", .str "InvalidWorld", .str "InvalidElement", .str "InvalidStep", .str "InvalidLimit"]) S = .ok (.bl false) S := fun S => in_lits rfl rfl
  have t1 : ∀ S, inX (.str "InvalidText") (.tup [.str "InvalidName", .str "WrongKind", .str "CircularName", .str "UnknownName"]) S = .ok (.bl false) S := fun S => in_lits rfl rfl
  have t2 : ∀ S, inX (.str "InvalidText") (.tup [.str "InvalidPlan", .str "EmptyLoop"]) S = .ok (.bl false) S := fun S => in_lits rfl rfl
  have t3 : ∀ S, inX (.str "InvalidText") (.tup [.str "TooMany", .str "CapacityExceeded"]) S = .ok (.bl false) S := fun S => in_lits rfl rfl
  have t4 : ∀ S, inX (.str "InvalidText") (.tup [.str "InvalidText", .str "InvalidProgram"]) S = .ok (.bl true) S := fun S => in_lits rfl rfl
  have e0 : lookN "given" ["given", "tag"] [v0, .str "InvalidText"] = some (v0) := lookN_eq
  have e1 : lookN "tag" ["given", "tag"] [v0, .str "InvalidText"] = some (.str "InvalidText") := (lookN_ne (by decide)).trans (lookN_eq)
  simp [m__law_field, t0, t1, t2, t3, t4, e0, e1]
  exact finP_same (by simp [h0]) ⟨rfl, rfl⟩
theorem fe_4 (h1 : under S.length v1 = true) : f__law_field [.exc "InvalidProgram" ["part", "tag"] [v1, .str "InvalidProgram"]] S = .ok (v1) S := by
  refine eq_of_we ?_
  unfold f__law_field
  refine we_def rfl ?_
  have t0 : ∀ S, inX (.str "InvalidProgram") (.tup [.str "InvalidRatio", .str "InvalidWorld", .str "InvalidElement", .str "InvalidStep", .str "InvalidLimit"]) S = .ok (.bl false) S := fun S => in_lits rfl rfl
  have t1 : ∀ S, inX (.str "InvalidProgram") (.tup [.str "InvalidName", .str "WrongKind", .str "CircularName", .str "UnknownName"]) S = .ok (.bl false) S := fun S => in_lits rfl rfl
  have t2 : ∀ S, inX (.str "InvalidProgram") (.tup [.str "InvalidPlan", .str "EmptyLoop"]) S = .ok (.bl false) S := fun S => in_lits rfl rfl
  have t3 : ∀ S, inX (.str "InvalidProgram") (.tup [.str "TooMany", .str "CapacityExceeded"]) S = .ok (.bl false) S := fun S => in_lits rfl rfl
  have t4 : ∀ S, inX (.str "InvalidProgram") (.tup [.str "InvalidText", .str "InvalidProgram"]) S = .ok (.bl true) S := fun S => in_lits rfl rfl
  have e0 : lookN "part" ["part", "tag"] [v1, .str "InvalidProgram"] = some (v1) := lookN_eq
  have e1 : lookN "tag" ["part", "tag"] [v1, .str "InvalidProgram"] = some (.str "InvalidProgram") := (lookN_ne (by decide)).trans (lookN_eq)
  simp [m__law_field, t0, t1, t2, t3, t4, e0, e1]
  exact finP_same (by simp [h1]) ⟨rfl, rfl⟩
theorem fe_5 (h2 : under S.length v2 = true) : f__law_field [.exc "InvalidPlan" ["path", "tag"] [v2, .str "InvalidPlan"]] S = .ok (v2) S := by
  refine eq_of_we ?_
  unfold f__law_field
  refine we_def rfl ?_
  have t0 : ∀ S, inX (.str "InvalidPlan") (.tup [.str "InvalidRatio", .str "InvalidWorld", .str "InvalidElement", .str "InvalidStep", .str "InvalidLimit"]) S = .ok (.bl false) S := fun S => in_lits rfl rfl
  have t1 : ∀ S, inX (.str "InvalidPlan") (.tup [.str "InvalidName", .str "WrongKind", .str "CircularName", .str "UnknownName"]) S = .ok (.bl false) S := fun S => in_lits rfl rfl
  have t2 : ∀ S, inX (.str "InvalidPlan") (.tup [.str "InvalidPlan", .str "EmptyLoop"]) S = .ok (.bl true) S := fun S => in_lits rfl rfl
  have e0 : lookN "path" ["path", "tag"] [v2, .str "InvalidPlan"] = some (v2) := lookN_eq
  have e1 : lookN "tag" ["path", "tag"] [v2, .str "InvalidPlan"] = some (.str "InvalidPlan") := (lookN_ne (by decide)).trans (lookN_eq)
  simp [m__law_field, t0, t1, t2, e0, e1]
  exact finP_same (by simp [h2]) ⟨rfl, rfl⟩
theorem fe_6 (h0 : under S.length v0 = true) : f__law_field [.exc "EmptyLoop" ["path", "tag"] [v0, .str "EmptyLoop"]] S = .ok (v0) S := by
  refine eq_of_we ?_
  unfold f__law_field
  refine we_def rfl ?_
  have t0 : ∀ S, inX (.str "EmptyLoop") (.tup [.str "InvalidRatio", .str "InvalidWorld", .str "InvalidElement", .str "InvalidStep", .str "InvalidLimit"]) S = .ok (.bl false) S := fun S => in_lits rfl rfl
  have t1 : ∀ S, inX (.str "EmptyLoop") (.tup [.str "InvalidName", .str "WrongKind", .str "CircularName", .str "UnknownName"]) S = .ok (.bl false) S := fun S => in_lits rfl rfl
  have t2 : ∀ S, inX (.str "EmptyLoop") (.tup [.str "InvalidPlan", .str "EmptyLoop"]) S = .ok (.bl true) S := fun S => in_lits rfl rfl
  have e0 : lookN "path" ["path", "tag"] [v0, .str "EmptyLoop"] = some (v0) := lookN_eq
  have e1 : lookN "tag" ["path", "tag"] [v0, .str "EmptyLoop"] = some (.str "EmptyLoop") := (lookN_ne (by decide)).trans (lookN_eq)
  simp [m__law_field, t0, t1, t2, e0, e1]
  exact finP_same (by simp [h0]) ⟨rfl, rfl⟩
theorem fe_7 (h1 : under S.length v1 = true) : f__law_field [.exc "InvalidStep" ["value", "tag"] [v1, .str "InvalidStep"]] S = .ok (v1) S := by
  refine eq_of_we ?_
  unfold f__law_field
  refine we_def rfl ?_
  have t0 : ∀ S, inX (.str "InvalidStep") (.tup [.str "InvalidRatio", .str "InvalidWorld", .str "InvalidElement", .str "InvalidStep", .str "InvalidLimit"]) S = .ok (.bl true) S := fun S => in_lits rfl rfl
  have e0 : lookN "value" ["value", "tag"] [v1, .str "InvalidStep"] = some (v1) := lookN_eq
  have e1 : lookN "tag" ["value", "tag"] [v1, .str "InvalidStep"] = some (.str "InvalidStep") := (lookN_ne (by decide)).trans (lookN_eq)
  simp [m__law_field, t0, e0, e1]
  exact finP_same (by simp [h1]) ⟨rfl, rfl⟩
theorem fe_8 (h2 : under S.length v2 = true) : f__law_field [.exc "InvalidReader" ["place", "tag"] [v2, .str "InvalidReader"]] S = .ok (v2) S := by
  refine eq_of_we ?_
  unfold f__law_field
  refine we_def rfl ?_
  have t0 : ∀ S, inX (.str "InvalidReader") (.tup [.str "InvalidRatio", .str "InvalidWorld", .str "InvalidElement", .str "InvalidStep", .str "InvalidLimit"]) S = .ok (.bl false) S := fun S => in_lits rfl rfl
  have t1 : ∀ S, inX (.str "InvalidReader") (.tup [.str "InvalidName", .str "WrongKind", .str "CircularName", .str "UnknownName"]) S = .ok (.bl false) S := fun S => in_lits rfl rfl
  have t2 : ∀ S, inX (.str "InvalidReader") (.tup [.str "InvalidPlan", .str "EmptyLoop"]) S = .ok (.bl false) S := fun S => in_lits rfl rfl
  have t3 : ∀ S, inX (.str "InvalidReader") (.tup [.str "TooMany", .str "CapacityExceeded"]) S = .ok (.bl false) S := fun S => in_lits rfl rfl
  have t4 : ∀ S, inX (.str "InvalidReader") (.tup [.str "InvalidText", .str "InvalidProgram"]) S = .ok (.bl false) S := fun S => in_lits rfl rfl
  have t5 : ∀ S, inX (.str "InvalidReader") (.tup [.str "InUse", .str "Breaks"]) S = .ok (.bl false) S := fun S => in_lits rfl rfl
  have t6 : ∀ S, inX (.str "InvalidReader") (.tup [.str "InvalidCommand", .str "InvalidPage"]) S = .ok (.bl false) S := fun S => in_lits rfl rfl
  have e0 : lookN "place" ["place", "tag"] [v2, .str "InvalidReader"] = some (v2) := lookN_eq
  have e1 : lookN "tag" ["place", "tag"] [v2, .str "InvalidReader"] = some (.str "InvalidReader") := (lookN_ne (by decide)).trans (lookN_eq)
  simp [m__law_field, t0, t1, t2, t3, t4, t5, t6, e0, e1]
  exact finP_same (by simp [h2]) ⟨rfl, rfl⟩
theorem fe_9 : f__law_field [.exc "WorldsDiffer" ["tag"] [.str "WorldsDiffer"]] S = .ok (.non) S := by
  refine eq_of_we ?_
  unfold f__law_field
  refine we_def rfl ?_
  have t0 : ∀ S, inX (.str "WorldsDiffer") (.tup [.str "InvalidRatio", .str "InvalidWorld", .str "InvalidElement", .str "InvalidStep", .str "InvalidLimit"]) S = .ok (.bl false) S := fun S => in_lits rfl rfl
  have t1 : ∀ S, inX (.str "WorldsDiffer") (.tup [.str "InvalidName", .str "WrongKind", .str "CircularName", .str "UnknownName"]) S = .ok (.bl false) S := fun S => in_lits rfl rfl
  have t2 : ∀ S, inX (.str "WorldsDiffer") (.tup [.str "InvalidPlan", .str "EmptyLoop"]) S = .ok (.bl false) S := fun S => in_lits rfl rfl
  have t3 : ∀ S, inX (.str "WorldsDiffer") (.tup [.str "TooMany", .str "CapacityExceeded"]) S = .ok (.bl false) S := fun S => in_lits rfl rfl
  have t4 : ∀ S, inX (.str "WorldsDiffer") (.tup [.str "InvalidText", .str "InvalidProgram"]) S = .ok (.bl false) S := fun S => in_lits rfl rfl
  have t5 : ∀ S, inX (.str "WorldsDiffer") (.tup [.str "InUse", .str "Breaks"]) S = .ok (.bl false) S := fun S => in_lits rfl rfl
  have t6 : ∀ S, inX (.str "WorldsDiffer") (.tup [.str "InvalidCommand", .str "InvalidPage"]) S = .ok (.bl false) S := fun S => in_lits rfl rfl
  have e0 : lookN "tag" ["tag"] [.str "WorldsDiffer"] = some (.str "WorldsDiffer") := lookN_eq
  simp [m__law_field, t0, t1, t2, t3, t4, t5, t6, e0]
theorem fe_10 (h0 : under S.length v0 = true) : f__law_field [.exc "TooMany" ["limit", "tag"] [v0, .str "TooMany"]] S = .ok (v0) S := by
  refine eq_of_we ?_
  unfold f__law_field
  refine we_def rfl ?_
  have t0 : ∀ S, inX (.str "TooMany") (.tup [.str "InvalidRatio", .str "InvalidWorld", .str "InvalidElement", .str "InvalidStep", .str "InvalidLimit"]) S = .ok (.bl false) S := fun S => in_lits rfl rfl
  have t1 : ∀ S, inX (.str "TooMany") (.tup [.str "InvalidName", .str "WrongKind", .str "CircularName", .str "UnknownName"]) S = .ok (.bl false) S := fun S => in_lits rfl rfl
  have t2 : ∀ S, inX (.str "TooMany") (.tup [.str "InvalidPlan", .str "EmptyLoop"]) S = .ok (.bl false) S := fun S => in_lits rfl rfl
  have t3 : ∀ S, inX (.str "TooMany") (.tup [.str "TooMany", .str "CapacityExceeded"]) S = .ok (.bl true) S := fun S => in_lits rfl rfl
  have e0 : lookN "limit" ["limit", "tag"] [v0, .str "TooMany"] = some (v0) := lookN_eq
  have e1 : lookN "tag" ["limit", "tag"] [v0, .str "TooMany"] = some (.str "TooMany") := (lookN_ne (by decide)).trans (lookN_eq)
  simp [m__law_field, t0, t1, t2, t3, e0, e1]
  exact finP_same (by simp [h0]) ⟨rfl, rfl⟩
theorem fe_11 (h1 : under S.length v1 = true) : f__law_field [.exc "InvalidName" ["name", "tag"] [v1, .str "InvalidName"]] S = .ok (v1) S := by
  refine eq_of_we ?_
  unfold f__law_field
  refine we_def rfl ?_
  have t0 : ∀ S, inX (.str "InvalidName") (.tup [.str "InvalidRatio", .str "InvalidWorld", .str "InvalidElement", .str "InvalidStep", .str "InvalidLimit"]) S = .ok (.bl false) S := fun S => in_lits rfl rfl
  have t1 : ∀ S, inX (.str "InvalidName") (.tup [.str "InvalidName", .str "WrongKind", .str "CircularName", .str "UnknownName"]) S = .ok (.bl true) S := fun S => in_lits rfl rfl
  have e0 : lookN "name" ["name", "tag"] [v1, .str "InvalidName"] = some (v1) := lookN_eq
  have e1 : lookN "tag" ["name", "tag"] [v1, .str "InvalidName"] = some (.str "InvalidName") := (lookN_ne (by decide)).trans (lookN_eq)
  simp [m__law_field, t0, t1, e0, e1]
  exact finP_same (by simp [h1]) ⟨rfl, rfl⟩
theorem fe_12 (h2 : under S.length v2 = true) : f__law_field [.exc "WrongKind" ["name", "tag"] [v2, .str "WrongKind"]] S = .ok (v2) S := by
  refine eq_of_we ?_
  unfold f__law_field
  refine we_def rfl ?_
  have t0 : ∀ S, inX (.str "WrongKind") (.tup [.str "InvalidRatio", .str "InvalidWorld", .str "InvalidElement", .str "InvalidStep", .str "InvalidLimit"]) S = .ok (.bl false) S := fun S => in_lits rfl rfl
  have t1 : ∀ S, inX (.str "WrongKind") (.tup [.str "InvalidName", .str "WrongKind", .str "CircularName", .str "UnknownName"]) S = .ok (.bl true) S := fun S => in_lits rfl rfl
  have e0 : lookN "name" ["name", "tag"] [v2, .str "WrongKind"] = some (v2) := lookN_eq
  have e1 : lookN "tag" ["name", "tag"] [v2, .str "WrongKind"] = some (.str "WrongKind") := (lookN_ne (by decide)).trans (lookN_eq)
  simp [m__law_field, t0, t1, e0, e1]
  exact finP_same (by simp [h2]) ⟨rfl, rfl⟩
theorem fe_13 (h0 : under S.length v0 = true) : f__law_field [.exc "CircularName" ["name", "tag"] [v0, .str "CircularName"]] S = .ok (v0) S := by
  refine eq_of_we ?_
  unfold f__law_field
  refine we_def rfl ?_
  have t0 : ∀ S, inX (.str "CircularName") (.tup [.str "InvalidRatio", .str "InvalidWorld", .str "InvalidElement", .str "InvalidStep", .str "InvalidLimit"]) S = .ok (.bl false) S := fun S => in_lits rfl rfl
  have t1 : ∀ S, inX (.str "CircularName") (.tup [.str "InvalidName", .str "WrongKind", .str "CircularName", .str "UnknownName"]) S = .ok (.bl true) S := fun S => in_lits rfl rfl
  have e0 : lookN "name" ["name", "tag"] [v0, .str "CircularName"] = some (v0) := lookN_eq
  have e1 : lookN "tag" ["name", "tag"] [v0, .str "CircularName"] = some (.str "CircularName") := (lookN_ne (by decide)).trans (lookN_eq)
  simp [m__law_field, t0, t1, e0, e1]
  exact finP_same (by simp [h0]) ⟨rfl, rfl⟩
theorem fe_14 (h1 : under S.length v1 = true) : f__law_field [.exc "InUse" ["user", "tag"] [v1, .str "InUse"]] S = .ok (v1) S := by
  refine eq_of_we ?_
  unfold f__law_field
  refine we_def rfl ?_
  have t0 : ∀ S, inX (.str "InUse") (.tup [.str "InvalidRatio", .str "InvalidWorld", .str "InvalidElement", .str "InvalidStep", .str "InvalidLimit"]) S = .ok (.bl false) S := fun S => in_lits rfl rfl
  have t1 : ∀ S, inX (.str "InUse") (.tup [.str "InvalidName", .str "WrongKind", .str "CircularName", .str "UnknownName"]) S = .ok (.bl false) S := fun S => in_lits rfl rfl
  have t2 : ∀ S, inX (.str "InUse") (.tup [.str "InvalidPlan", .str "EmptyLoop"]) S = .ok (.bl false) S := fun S => in_lits rfl rfl
  have t3 : ∀ S, inX (.str "InUse") (.tup [.str "TooMany", .str "CapacityExceeded"]) S = .ok (.bl false) S := fun S => in_lits rfl rfl
  have t4 : ∀ S, inX (.str "InUse") (.tup [.str "InvalidText", .str "InvalidProgram"]) S = .ok (.bl false) S := fun S => in_lits rfl rfl
  have t5 : ∀ S, inX (.str "InUse") (.tup [.str "InUse", .str "Breaks"]) S = .ok (.bl true) S := fun S => in_lits rfl rfl
  have e0 : lookN "user" ["user", "tag"] [v1, .str "InUse"] = some (v1) := lookN_eq
  have e1 : lookN "tag" ["user", "tag"] [v1, .str "InUse"] = some (.str "InUse") := (lookN_ne (by decide)).trans (lookN_eq)
  simp [m__law_field, t0, t1, t2, t3, t4, t5, e0, e1]
  exact finP_same (by simp [h1]) ⟨rfl, rfl⟩
theorem fe_15 (h0 : under S.length v0 = true) (h2 : under S.length v2 = true) : f__law_field [.exc "Breaks" ["word", "user", "tag"] [v0, v2, .str "Breaks"]] S = .ok (.tup [v2, v0]) S := by
  refine eq_of_we ?_
  unfold f__law_field
  refine we_def rfl ?_
  have t0 : ∀ S, inX (.str "Breaks") (.tup [.str "InvalidRatio", .str "InvalidWorld", .str "InvalidElement", .str "InvalidStep", .str "InvalidLimit"]) S = .ok (.bl false) S := fun S => in_lits rfl rfl
  have t1 : ∀ S, inX (.str "Breaks") (.tup [.str "InvalidName", .str "WrongKind", .str "CircularName", .str "UnknownName"]) S = .ok (.bl false) S := fun S => in_lits rfl rfl
  have t2 : ∀ S, inX (.str "Breaks") (.tup [.str "InvalidPlan", .str "EmptyLoop"]) S = .ok (.bl false) S := fun S => in_lits rfl rfl
  have t3 : ∀ S, inX (.str "Breaks") (.tup [.str "TooMany", .str "CapacityExceeded"]) S = .ok (.bl false) S := fun S => in_lits rfl rfl
  have t4 : ∀ S, inX (.str "Breaks") (.tup [.str "InvalidText", .str "InvalidProgram"]) S = .ok (.bl false) S := fun S => in_lits rfl rfl
  have t5 : ∀ S, inX (.str "Breaks") (.tup [.str "InUse", .str "Breaks"]) S = .ok (.bl true) S := fun S => in_lits rfl rfl
  have e0 : lookN "word" ["word", "user", "tag"] [v0, v2, .str "Breaks"] = some (v0) := lookN_eq
  have e1 : lookN "user" ["word", "user", "tag"] [v0, v2, .str "Breaks"] = some (v2) := (lookN_ne (by decide)).trans (lookN_eq)
  have e2 : lookN "tag" ["word", "user", "tag"] [v0, v2, .str "Breaks"] = some (.str "Breaks") := (lookN_ne (by decide)).trans ((lookN_ne (by decide)).trans (lookN_eq))
  simp [m__law_field, t0, t1, t2, t3, t4, t5, e0, e1, e2]
  exact finP_same (by simp [h0, h2]) ⟨rfl, rfl⟩
theorem fe_16 (h1 : under S.length v1 = true) : f__law_field [.exc "CapacityExceeded" ["limit", "tag"] [v1, .str "CapacityExceeded"]] S = .ok (v1) S := by
  refine eq_of_we ?_
  unfold f__law_field
  refine we_def rfl ?_
  have t0 : ∀ S, inX (.str "CapacityExceeded") (.tup [.str "InvalidRatio", .str "InvalidWorld", .str "InvalidElement", .str "InvalidStep", .str "InvalidLimit"]) S = .ok (.bl false) S := fun S => in_lits rfl rfl
  have t1 : ∀ S, inX (.str "CapacityExceeded") (.tup [.str "InvalidName", .str "WrongKind", .str "CircularName", .str "UnknownName"]) S = .ok (.bl false) S := fun S => in_lits rfl rfl
  have t2 : ∀ S, inX (.str "CapacityExceeded") (.tup [.str "InvalidPlan", .str "EmptyLoop"]) S = .ok (.bl false) S := fun S => in_lits rfl rfl
  have t3 : ∀ S, inX (.str "CapacityExceeded") (.tup [.str "TooMany", .str "CapacityExceeded"]) S = .ok (.bl true) S := fun S => in_lits rfl rfl
  have e0 : lookN "limit" ["limit", "tag"] [v1, .str "CapacityExceeded"] = some (v1) := lookN_eq
  have e1 : lookN "tag" ["limit", "tag"] [v1, .str "CapacityExceeded"] = some (.str "CapacityExceeded") := (lookN_ne (by decide)).trans (lookN_eq)
  simp [m__law_field, t0, t1, t2, t3, e0, e1]
  exact finP_same (by simp [h1]) ⟨rfl, rfl⟩
theorem fe_17 (h2 : under S.length v2 = true) : f__law_field [.exc "InvalidLimit" ["value", "tag"] [v2, .str "InvalidLimit"]] S = .ok (v2) S := by
  refine eq_of_we ?_
  unfold f__law_field
  refine we_def rfl ?_
  have t0 : ∀ S, inX (.str "InvalidLimit") (.tup [.str "InvalidRatio", .str "InvalidWorld", .str "InvalidElement", .str "InvalidStep", .str "InvalidLimit"]) S = .ok (.bl true) S := fun S => in_lits rfl rfl
  have e0 : lookN "value" ["value", "tag"] [v2, .str "InvalidLimit"] = some (v2) := lookN_eq
  have e1 : lookN "tag" ["value", "tag"] [v2, .str "InvalidLimit"] = some (.str "InvalidLimit") := (lookN_ne (by decide)).trans (lookN_eq)
  simp [m__law_field, t0, e0, e1]
  exact finP_same (by simp [h2]) ⟨rfl, rfl⟩
theorem fe_18 (h0 : under S.length v0 = true) : f__law_field [.exc "InvalidCommand" ["word", "tag"] [v0, .str "InvalidCommand"]] S = .ok (v0) S := by
  refine eq_of_we ?_
  unfold f__law_field
  refine we_def rfl ?_
  have t0 : ∀ S, inX (.str "InvalidCommand") (.tup [.str "InvalidRatio", .str "InvalidWorld", .str "InvalidElement", .str "InvalidStep", .str "InvalidLimit"]) S = .ok (.bl false) S := fun S => in_lits rfl rfl
  have t1 : ∀ S, inX (.str "InvalidCommand") (.tup [.str "InvalidName", .str "WrongKind", .str "CircularName", .str "UnknownName"]) S = .ok (.bl false) S := fun S => in_lits rfl rfl
  have t2 : ∀ S, inX (.str "InvalidCommand") (.tup [.str "InvalidPlan", .str "EmptyLoop"]) S = .ok (.bl false) S := fun S => in_lits rfl rfl
  have t3 : ∀ S, inX (.str "InvalidCommand") (.tup [.str "TooMany", .str "CapacityExceeded"]) S = .ok (.bl false) S := fun S => in_lits rfl rfl
  have t4 : ∀ S, inX (.str "InvalidCommand") (.tup [.str "InvalidText", .str "InvalidProgram"]) S = .ok (.bl false) S := fun S => in_lits rfl rfl
  have t5 : ∀ S, inX (.str "InvalidCommand") (.tup [.str "InUse", .str "Breaks"]) S = .ok (.bl false) S := fun S => in_lits rfl rfl
  have t6 : ∀ S, inX (.str "InvalidCommand") (.tup [.str "InvalidCommand", .str "InvalidPage"]) S = .ok (.bl true) S := fun S => in_lits rfl rfl
  have e0 : lookN "word" ["word", "tag"] [v0, .str "InvalidCommand"] = some (v0) := lookN_eq
  have e1 : lookN "tag" ["word", "tag"] [v0, .str "InvalidCommand"] = some (.str "InvalidCommand") := (lookN_ne (by decide)).trans (lookN_eq)
  simp [m__law_field, t0, t1, t2, t3, t4, t5, t6, e0, e1]
  exact finP_same (by simp [h0]) ⟨rfl, rfl⟩
theorem fe_19 (h1 : under S.length v1 = true) : f__law_field [.exc "InvalidPage" ["line", "tag"] [v1, .str "InvalidPage"]] S = .ok (v1) S := by
  refine eq_of_we ?_
  unfold f__law_field
  refine we_def rfl ?_
  have t0 : ∀ S, inX (.str "InvalidPage") (.tup [.str "InvalidRatio", .str "InvalidWorld", .str "InvalidElement", .str "InvalidStep", .str "InvalidLimit"]) S = .ok (.bl false) S := fun S => in_lits rfl rfl
  have t1 : ∀ S, inX (.str "InvalidPage") (.tup [.str "InvalidName", .str "WrongKind", .str "CircularName", .str "UnknownName"]) S = .ok (.bl false) S := fun S => in_lits rfl rfl
  have t2 : ∀ S, inX (.str "InvalidPage") (.tup [.str "InvalidPlan", .str "EmptyLoop"]) S = .ok (.bl false) S := fun S => in_lits rfl rfl
  have t3 : ∀ S, inX (.str "InvalidPage") (.tup [.str "TooMany", .str "CapacityExceeded"]) S = .ok (.bl false) S := fun S => in_lits rfl rfl
  have t4 : ∀ S, inX (.str "InvalidPage") (.tup [.str "InvalidText", .str "InvalidProgram"]) S = .ok (.bl false) S := fun S => in_lits rfl rfl
  have t5 : ∀ S, inX (.str "InvalidPage") (.tup [.str "InUse", .str "Breaks"]) S = .ok (.bl false) S := fun S => in_lits rfl rfl
  have t6 : ∀ S, inX (.str "InvalidPage") (.tup [.str "InvalidCommand", .str "InvalidPage"]) S = .ok (.bl true) S := fun S => in_lits rfl rfl
  have e0 : lookN "line" ["line", "tag"] [v1, .str "InvalidPage"] = some (v1) := lookN_eq
  have e1 : lookN "tag" ["line", "tag"] [v1, .str "InvalidPage"] = some (.str "InvalidPage") := (lookN_ne (by decide)).trans (lookN_eq)
  simp [m__law_field, t0, t1, t2, t3, t4, t5, t6, e0, e1]
  exact finP_same (by simp [h1]) ⟨rfl, rfl⟩
theorem fe_20 (h2 : under S.length v2 = true) : f__law_field [.exc "UnknownName" ["name", "tag"] [v2, .str "UnknownName"]] S = .ok (v2) S := by
  refine eq_of_we ?_
  unfold f__law_field
  refine we_def rfl ?_
  have t0 : ∀ S, inX (.str "UnknownName") (.tup [.str "InvalidRatio", .str "InvalidWorld", .str "InvalidElement", .str "InvalidStep", .str "InvalidLimit"]) S = .ok (.bl false) S := fun S => in_lits rfl rfl
  have t1 : ∀ S, inX (.str "UnknownName") (.tup [.str "InvalidName", .str "WrongKind", .str "CircularName", .str "UnknownName"]) S = .ok (.bl true) S := fun S => in_lits rfl rfl
  have e0 : lookN "name" ["name", "tag"] [v2, .str "UnknownName"] = some (v2) := lookN_eq
  have e1 : lookN "tag" ["name", "tag"] [v2, .str "UnknownName"] = some (.str "UnknownName") := (lookN_ne (by decide)).trans (lookN_eq)
  simp [m__law_field, t0, t1, e0, e1]
  exact finP_same (by simp [h2]) ⟨rfl, rfl⟩
theorem fe_21 : f__law_field [.exc "NothingLeft" ["tag"] [.str "NothingLeft"]] S = .ok (.non) S := by
  refine eq_of_we ?_
  unfold f__law_field
  refine we_def rfl ?_
  have t0 : ∀ S, inX (.str "NothingLeft") (.tup [.str "InvalidRatio", .str "InvalidWorld", .str "InvalidElement", .str "InvalidStep", .str "InvalidLimit"]) S = .ok (.bl false) S := fun S => in_lits rfl rfl
  have t1 : ∀ S, inX (.str "NothingLeft") (.tup [.str "InvalidName", .str "WrongKind", .str "CircularName", .str "UnknownName"]) S = .ok (.bl false) S := fun S => in_lits rfl rfl
  have t2 : ∀ S, inX (.str "NothingLeft") (.tup [.str "InvalidPlan", .str "EmptyLoop"]) S = .ok (.bl false) S := fun S => in_lits rfl rfl
  have t3 : ∀ S, inX (.str "NothingLeft") (.tup [.str "TooMany", .str "CapacityExceeded"]) S = .ok (.bl false) S := fun S => in_lits rfl rfl
  have t4 : ∀ S, inX (.str "NothingLeft") (.tup [.str "InvalidText", .str "InvalidProgram"]) S = .ok (.bl false) S := fun S => in_lits rfl rfl
  have t5 : ∀ S, inX (.str "NothingLeft") (.tup [.str "InUse", .str "Breaks"]) S = .ok (.bl false) S := fun S => in_lits rfl rfl
  have t6 : ∀ S, inX (.str "NothingLeft") (.tup [.str "InvalidCommand", .str "InvalidPage"]) S = .ok (.bl false) S := fun S => in_lits rfl rfl
  have e0 : lookN "tag" ["tag"] [.str "NothingLeft"] = some (.str "NothingLeft") := lookN_eq
  simp [m__law_field, t0, t1, t2, t3, t4, t5, t6, e0]
def eL (v0 v1 v2 : D) : List D := [.exc "InvalidRatio" ["value", "tag"] [v0, .str "InvalidRatio"], .exc "InvalidWorld" ["value", "tag"] [v1, .str "InvalidWorld"], .exc "InvalidElement" ["value", "tag"] [v2, .str "InvalidElement"], .exc "InvalidText" ["given", "tag"] [v0, .str "InvalidText"], .exc "InvalidProgram" ["part", "tag"] [v1, .str "InvalidProgram"], .exc "InvalidPlan" ["path", "tag"] [v2, .str "InvalidPlan"], .exc "EmptyLoop" ["path", "tag"] [v0, .str "EmptyLoop"], .exc "InvalidStep" ["value", "tag"] [v1, .str "InvalidStep"], .exc "InvalidReader" ["place", "tag"] [v2, .str "InvalidReader"], .exc "WorldsDiffer" ["tag"] [.str "WorldsDiffer"], .exc "TooMany" ["limit", "tag"] [v0, .str "TooMany"], .exc "InvalidName" ["name", "tag"] [v1, .str "InvalidName"], .exc "WrongKind" ["name", "tag"] [v2, .str "WrongKind"], .exc "CircularName" ["name", "tag"] [v0, .str "CircularName"], .exc "InUse" ["user", "tag"] [v1, .str "InUse"], .exc "Breaks" ["word", "user", "tag"] [v0, v2, .str "Breaks"], .exc "CapacityExceeded" ["limit", "tag"] [v1, .str "CapacityExceeded"], .exc "InvalidLimit" ["value", "tag"] [v2, .str "InvalidLimit"], .exc "InvalidCommand" ["word", "tag"] [v0, .str "InvalidCommand"], .exc "InvalidPage" ["line", "tag"] [v1, .str "InvalidPage"], .exc "UnknownName" ["name", "tag"] [v2, .str "UnknownName"], .exc "NothingLeft" ["tag"] [.str "NothingLeft"]]
def dueL (v0 v1 v2 : D) : List D := [v0, v1, v2, v0, v1, v2, v0, v1, v2, .non, v0, v1, v2, v0, v1, .tup [v2, v0], v1, v2, v0, v1, v2, .non]
theorem all_eq (h0 : under 0 v0 = true) (h1 : under 0 v1 = true) (h2 : under 0 v2 = true) : f__law_all [.lst [v0, v1, v2]] S = .ok (.lst (eL v0 v1 v2)) S := by
  refine eq_of_we ?_
  unfold f__law_all
  refine we_def rfl ?_
  simp [m__law_all, excKS, pickL]
  exact finP_same (by simp [Z.under, under_of h0, under_of h1, under_of h2]) ⟨rfl, rfl⟩
def lone (c : String) : List Bool := TG.map fun z : String => decide (Str.ofString z = Str.ofString c)
def undL (k : Nat) : List Bool := [decide ((k : Int) < 20), decide ((k : Int) < 20), decide ((k : Int) = 20), decide (20 ≤ (k : Int)), decide ((k : Int) = 21)]
/-- what is known of the k-th error -/
structure Item (v0 v1 v2 : D) (k : Nat) (e : D) : Prop where
  ex : ∃ (c : String) (ns : List Str) (ds : List D) (v : D), e = .exc c ns ds ∧ TG[k]? = some c ∧ (dueL v0 v1 v2)[k]? = some v ∧ (c : Str) ∈ ALL ∧ lookN "tag" ns ds = some (.str c) ∧ (∀ S, f__law_field [e] S = .ok v S) ∧ flagsOf c = lone c ++ undL k ∧ Z.plain 10 v ∧ underL 0 ds = true
theorem items (h0 : under 0 v0 = true) (h1 : under 0 v1 = true) (h2 : under 0 v2 = true) (p0 : Z.plain 9 v0) (p1 : Z.plain 9 v1) (p2 : Z.plain 9 v2) (q0 : Z.plain 10 v0) (q1 : Z.plain 10 v1) (q2 : Z.plain 10 v2) : ∀ (k : Nat) (e : D), (eL v0 v1 v2)[k]? = some e → Item v0 v1 v2 k e := fun k e h => by
  match k, h with
  | 0, h => cases h; exact ⟨"InvalidRatio", _, _, _, rfl, rfl, rfl, by decide +kernel, (lookN_ne (by decide)).trans (lookN_eq), fun S => fe_0 (under_of h0), by decide +kernel, by exact q0, by simp [h0]⟩
  | 1, h => cases h; exact ⟨"InvalidWorld", _, _, _, rfl, rfl, rfl, by decide +kernel, (lookN_ne (by decide)).trans (lookN_eq), fun S => fe_1 (under_of h1), by decide +kernel, by exact q1, by simp [h1]⟩
  | 2, h => cases h; exact ⟨"InvalidElement", _, _, _, rfl, rfl, rfl, by decide +kernel, (lookN_ne (by decide)).trans (lookN_eq), fun S => fe_2 (under_of h2), by decide +kernel, by exact q2, by simp [h2]⟩
  | 3, h => cases h; exact ⟨"InvalidText", _, _, _, rfl, rfl, rfl, by decide +kernel, (lookN_ne (by decide)).trans (lookN_eq), fun S => fe_3 (under_of h0), by decide +kernel, by exact q0, by simp [h0]⟩
  | 4, h => cases h; exact ⟨"InvalidProgram", _, _, _, rfl, rfl, rfl, by decide +kernel, (lookN_ne (by decide)).trans (lookN_eq), fun S => fe_4 (under_of h1), by decide +kernel, by exact q1, by simp [h1]⟩
  | 5, h => cases h; exact ⟨"InvalidPlan", _, _, _, rfl, rfl, rfl, by decide +kernel, (lookN_ne (by decide)).trans (lookN_eq), fun S => fe_5 (under_of h2), by decide +kernel, by exact q2, by simp [h2]⟩
  | 6, h => cases h; exact ⟨"EmptyLoop", _, _, _, rfl, rfl, rfl, by decide +kernel, (lookN_ne (by decide)).trans (lookN_eq), fun S => fe_6 (under_of h0), by decide +kernel, by exact q0, by simp [h0]⟩
  | 7, h => cases h; exact ⟨"InvalidStep", _, _, _, rfl, rfl, rfl, by decide +kernel, (lookN_ne (by decide)).trans (lookN_eq), fun S => fe_7 (under_of h1), by decide +kernel, by exact q1, by simp [h1]⟩
  | 8, h => cases h; exact ⟨"InvalidReader", _, _, _, rfl, rfl, rfl, by decide +kernel, (lookN_ne (by decide)).trans (lookN_eq), fun S => fe_8 (under_of h2), by decide +kernel, by exact q2, by simp [h2]⟩
  | 9, h => cases h; exact ⟨"WorldsDiffer", _, _, _, rfl, rfl, rfl, by decide +kernel, lookN_eq, fun S => fe_9 , by decide +kernel, by simp [Z.plain], by simp⟩
  | 10, h => cases h; exact ⟨"TooMany", _, _, _, rfl, rfl, rfl, by decide +kernel, (lookN_ne (by decide)).trans (lookN_eq), fun S => fe_10 (under_of h0), by decide +kernel, by exact q0, by simp [h0]⟩
  | 11, h => cases h; exact ⟨"InvalidName", _, _, _, rfl, rfl, rfl, by decide +kernel, (lookN_ne (by decide)).trans (lookN_eq), fun S => fe_11 (under_of h1), by decide +kernel, by exact q1, by simp [h1]⟩
  | 12, h => cases h; exact ⟨"WrongKind", _, _, _, rfl, rfl, rfl, by decide +kernel, (lookN_ne (by decide)).trans (lookN_eq), fun S => fe_12 (under_of h2), by decide +kernel, by exact q2, by simp [h2]⟩
  | 13, h => cases h; exact ⟨"CircularName", _, _, _, rfl, rfl, rfl, by decide +kernel, (lookN_ne (by decide)).trans (lookN_eq), fun S => fe_13 (under_of h0), by decide +kernel, by exact q0, by simp [h0]⟩
  | 14, h => cases h; exact ⟨"InUse", _, _, _, rfl, rfl, rfl, by decide +kernel, (lookN_ne (by decide)).trans (lookN_eq), fun S => fe_14 (under_of h1), by decide +kernel, by exact q1, by simp [h1]⟩
  | 15, h => cases h; exact ⟨"Breaks", _, _, _, rfl, rfl, rfl, by decide +kernel, (lookN_ne (by decide)).trans ((lookN_ne (by decide)).trans (lookN_eq)), fun S => fe_15 (under_of h0) (under_of h2), by decide +kernel, by simp [Z.plain, plainL, p0, p2], by simp [h0, h2]⟩
  | 16, h => cases h; exact ⟨"CapacityExceeded", _, _, _, rfl, rfl, rfl, by decide +kernel, (lookN_ne (by decide)).trans (lookN_eq), fun S => fe_16 (under_of h1), by decide +kernel, by exact q1, by simp [h1]⟩
  | 17, h => cases h; exact ⟨"InvalidLimit", _, _, _, rfl, rfl, rfl, by decide +kernel, (lookN_ne (by decide)).trans (lookN_eq), fun S => fe_17 (under_of h2), by decide +kernel, by exact q2, by simp [h2]⟩
  | 18, h => cases h; exact ⟨"InvalidCommand", _, _, _, rfl, rfl, rfl, by decide +kernel, (lookN_ne (by decide)).trans (lookN_eq), fun S => fe_18 (under_of h0), by decide +kernel, by exact q0, by simp [h0]⟩
  | 19, h => cases h; exact ⟨"InvalidPage", _, _, _, rfl, rfl, rfl, by decide +kernel, (lookN_ne (by decide)).trans (lookN_eq), fun S => fe_19 (under_of h1), by decide +kernel, by exact q1, by simp [h1]⟩
  | 20, h => cases h; exact ⟨"UnknownName", _, _, _, rfl, rfl, rfl, by decide +kernel, (lookN_ne (by decide)).trans (lookN_eq), fun S => fe_20 (under_of h2), by decide +kernel, by exact q2, by simp [h2]⟩
  | 21, h => cases h; exact ⟨"NothingLeft", _, _, _, rfl, rfl, rfl, by decide +kernel, lookN_eq, fun S => fe_21 , by decide +kernel, by simp [Z.plain], by simp⟩
  | k + 22, h => cases h
end
end K01
namespace K01
open PySem PySem.Spec L2 Z
variable {S : Store} {P X : D → Store → Prop} {v v0 v1 v2 : D}
theorem list3 {ys : List D} {E : D → Prop} (hl : ys.length = 3) (h : ∀ y ∈ ys, E y) : ∃ a b c, ys = [a, b, c] ∧ E a ∧ E b ∧ E c := by
  match ys, hl with
  | [a, b, c], _ => exact ⟨a, b, c, rfl, h a (by simp), h b (by simp), h c (by simp)⟩
theorem ne_bl (bs : List Bool) (hl : bs.length ≤ 1000) : eqD true (.lst (bs.map D.bl)) (.lst (bs.map D.bl)) S = .ok (.bl false) S := by
  have e1 : toPL0 (bs.map D.bl) = some (bs.map PyData.bool) := by
    clear hl
    induction bs with
    | nil => rfl
    | cons x xs ih => simp [toPL0, toP0, ih]
  have h1 : PyData.canLayAll0 (bs.map PyData.bool) = true ∧ PyData.depthAll (bs.map PyData.bool) = 0 := by
    clear e1 hl
    induction bs with
    | nil => exact ⟨rfl, rfl⟩
    | cons x xs ih =>
      rw [List.map_cons, PyData.canLayAll0, PyData.depthAll, ih.1, ih.2]
      simp [PyData.canLay0, PyData.depth]
  have e2 : SeqAt.shaped (.list (bs.map PyData.bool)) = true := by
    simp [SeqAt.shaped, PyData.canLay0, PyData.depth, h1.1, h1.2]
  have e3 : (PyData.list (bs.map PyData.bool)).canLay0 = true := by
    simp [PyData.canLay0, h1.1]
  simp only [eqD, toP, toP0, e1, Option.map_some]
  rw [if_pos ⟨e2, e2⟩, PySem.SeqAt.eqv_refl _ e3]
  rfl
/-- what the three drawn values are -/
def OPT : List D := [.str "", .str "ab", .int 7, .tup [.int 1, .int 2], .non, .tup [.str "x"], .int 100000000000000000000]
theorem opt_ok {d : D} (h : d ∈ OPT) : under 0 d = true ∧ Z.plain 9 d ∧ Z.plain 10 d := by
  have o1 : okS [] := by simp [okS]
  simp only [OPT, List.mem_cons, List.not_mem_nil, or_false] at h
  rcases h with rfl | rfl | rfl | rfl | rfl | rfl | rfl <;> simp [Z.plain, plainL, okS_lit, o1]
def tagsD : D := .lst (TG.map fun z : String => .str (Str.ofString z))
theorem law_we (ns : List Int) : We (defS 11 m_law [.scr ns] []) (fun d S => d = .bl true) (fun _ _ => False) := by
  rw [we_defS]
  unfold m_law
  rw [w_sSeq]
  simp [-w_sSeq]
  refine bag_start ns ?_
  refine wo_cut (fun sl S2 => Drawn 0 (ns.take 63) [bagD (ns.take 63) 0 0 5625] S2 ∧ ∃ v0 v1 v2, (v0 ∈ OPT ∧ v1 ∈ OPT ∧ v2 ∈ OPT) ∧ sl = [some (.scr ns), some (.ptr 0), some (.lst [v0, v1, v2]), none, none, none, none, none, none, none, none]) ?_ ?_
  · have e : ∀ S, powI (.int 10) (.int 20) S = .ok (.int 100000000000000000000) S := fun S => rfl
    rw [w_sAsg, w_eFin]
    refine we_lc_draw (E := fun _ d => d ∈ OPT) (Drawn.refl (bag_is ns)) (itRange1_of (j := 3) rfl (by omega) (by omega)) (by simp [rangeD]) (fun _ _ _ => trivial) (fun y hy S' acc hD3 => ?_) (fun _ d h => (opt_ok h).1) fun ys S' hl hy hD3 => ?_
    · simp [wipeS, e]
      refine (of_df (by simp) (by simp) (by simp)).app hD3.1 fun d S4 hd hD4 => ⟨S4, rfl, hD4, ?_⟩
      simpa [OPT] using hd
    · obtain ⟨a, b, c, rfl, h1, h2, h3⟩ := list3 (by rw [hl]; simp [rangeD]) (fun y h => let ⟨_, _, e⟩ := hy y h; e)
      simp
      exact ⟨hD3, a, b, c, ⟨h1, h2, h3⟩, rfl, rfl, rfl⟩
  rintro sl S2 ⟨hD2, v0, v1, v2, ⟨ho0, ho1, ho2⟩, rfl⟩
  obtain ⟨u0, p0, q0⟩ := opt_ok ho0
  obtain ⟨u1, p1, q1⟩ := opt_ok ho1
  obtain ⟨u2, p2, q2⟩ := opt_ok ho2
  refine wo_cut (fun sl S3 => S3 = S2 ∧ sl = [some (.scr ns), some (.ptr 0), some (.lst [v0, v1, v2]), none, some (.lst [.str "InvalidRatio", .str "InvalidWorld", .str "InvalidElement", .str "InvalidText", .str "InvalidProgram"]), none, none, none, none, none, none]) (by simp) ?_
  rintro sl S3 ⟨rfl, rfl⟩
  refine wo_cut (fun sl S4 => S4 = S3 ∧ sl = [some (.scr ns), some (.ptr 0), some (.lst [v0, v1, v2]), none, some (.lst (TG.take 10 |>.map fun z : String => .str (Str.ofString z))), none, none, none, none, none, none]) (by simp) ?_
  rintro sl S4 ⟨rfl, rfl⟩
  refine wo_cut (fun sl S5 => S5 = S4 ∧ sl = [some (.scr ns), some (.ptr 0), some (.lst [v0, v1, v2]), none, some (.lst (TG.take 13 |>.map fun z : String => .str (Str.ofString z))), none, none, none, none, none, none]) (by simp) ?_
  rintro sl S5 ⟨rfl, rfl⟩
  refine wo_cut (fun sl S6 => S6 = S5 ∧ sl = [some (.scr ns), some (.ptr 0), some (.lst [v0, v1, v2]), none, some (.lst (TG.take 19 |>.map fun z : String => .str (Str.ofString z))), none, none, none, none, none, none]) (by simp) ?_
  rintro sl S6 ⟨rfl, rfl⟩
  refine wo_cut (fun sl S7 => S7 = S6 ∧ sl = [some (.scr ns), some (.ptr 0), some (.lst [v0, v1, v2]), none, some tagsD, none, none, none, none, none, none]) (by simp [tagsD]) ?_
  rintro sl S7 ⟨rfl, rfl⟩
  refine wo_cut (fun sl S8 => S8 = S7 ∧ sl = [some (.scr ns), some (.ptr 0), some (.lst [v0, v1, v2]), none, some tagsD, some (.lst ((dueL v0 v1 v2).take 12)), none, none, none, none, none]) (by simp [dueL]) ?_
  rintro sl S8 ⟨rfl, rfl⟩
  refine wo_cut (fun sl S9 => S9 = S8 ∧ sl = [some (.scr ns), some (.ptr 0), some (.lst [v0, v1, v2]), none, some tagsD, some (.lst (dueL v0 v1 v2)), none, none, none, none, none]) (by simp [dueL]) ?_
  rintro sl S9 ⟨rfl, rfl⟩
  refine wo_cut (fun sl S10 => S10 = S9) ?_ ?_
  · have hall : eArgs f__law_all (aCons (eName 2) aNil) [some (.scr ns), some (.ptr 0), some (.lst [v0, v1, v2]), none, some tagsD, some (.lst (dueL v0 v1 v2)), none, none, none, none, none] S9 = .ok (.lst (eL v0 v1 v2)) S9 := by
      simp [eArgs, aCons, aNil, eName, all_eq u0 u1 u2]
    refine wo_for (itEnum_of hall (srcD_lst _)) (fun pre sl S1 => S1 = S9 ∧ ∃ x6 x7 x8 x9 x10, sl = [some (.scr ns), some (.ptr 0), some (.lst [v0, v1, v2]), none, some tagsD, some (.lst (dueL v0 v1 v2)), x6, x7, x8, x9, x10]) ⟨rfl, _, _, _, _, _, rfl⟩ ?_ ?_
    · rintro pre x post sl S1 he ⟨rfl, x6, x7, x8, x9, x10, rfl⟩
      refine ⟨by simp, ?_⟩
      have hx : (enumD 0 (eL v0 v1 v2))[pre.length]? = some x := by rw [he]; simp
      rw [enumD_get] at hx
      obtain ⟨e, he1, rfl⟩ := Option.map_eq_some_iff.mp hx
      rw [Nat.zero_add]
      generalize pre.length = k at he1 hx ⊢
      obtain ⟨c, es, ds, v, rfl, hk, hd, hc, htag, hf, hfl, hp, hu⟩ := (items u0 u1 u2 p0 p1 p2 q0 q1 q2 k e he1).ex
      have hix : ∀ S, ixX tagsD (.int k) S = .ok (.str (Str.ofString c)) S := fun S => eq_of_we (by unfold tagsD; simp [-List.map_cons, -List.map_nil, List.getElem?_map, hk])
      simp
      refine we_lcF_pure (xs := TG.map fun z : String => .str (Str.ofString z)) (fun _ => true) (fun d => match d with | .str s => .bl (decide (s = Str.ofString c)) | _ => .non) (itAny_of (eName_of rfl) (srcD_lst _)) (by simp) (fun _ => by simp [tagsD]) (fun x hx acc => ?_) (fun x hx _ => ?_) ?_
      · obtain ⟨z, _, rfl⟩ := List.mem_map.mp hx
        simp [wipeS, bTrue, hix]
      · obtain ⟨z, _, rfl⟩ := List.mem_map.mp hx
        simp
      · have hl : (((TG.map fun z : String => D.str (Str.ofString z)).filter fun _ => true).map fun d => match d with | .str s => D.bl (decide (s = Str.ofString c)) | _ => .non) = (lone c).map D.bl := by
          rw [List.filter_eq_self.mpr (fun _ _ => rfl), List.map_map, lone, List.map_map]
          rfl
        rw [hl]
        refine ⟨by simpa using hc, ?_⟩
        rw [htag]
        have hs : ∀ S, f__law_same [.lst [.str (Str.ofString c), v], .lst [.str (Str.ofString c), v]] S = .ok (.bl true) S := fun S => same_eq (by simp [Z.plain, plainL, okS_lit, hp])
        have hun : (D.lst [D.bl (decide ((k : Int) < 20)), D.bl (decide ((k : Int) < 20)), D.bl (decide ((k : Int) = 20)), D.bl (decide (20 ≤ (k : Int))), D.bl (decide ((k : Int) = 21))]) = .lst ((undL k).map D.bl) := rfl
        simp only [hf, hix, hd, hs, flags_eq hc hu, hun, hfl]
        simp [hf, hix, hd, hs, flags_eq hc hu, hun, hfl]
        refine ⟨by simp [lone, undL], ?_⟩
        rw [← List.map_append, ne_bl _ (by simp [lone, undL])]
        simp
    · rintro sl S1 ⟨rfl, x6, x7, x8, x9, x10, rfl⟩
      exact ⟨by simp, rfl⟩
  rintro sl S10 rfl
  have hs : ∀ S, f__law_same [.lst [.str "y", .str "x"], .lst [.str "y", .str "x"]] S = .ok (.bl true) S := fun S => same_eq (by simp [Z.plain, plainL, okS_lit])
  simp [excKS, pickL]
  rw [lookN_ne (by decide), lookN_eq, lookN_eq]
  simp [hs]
  exact finP_app (S1 := []) (Keep.refl _) rfl rfl
theorem law_ok : ∀ ns : List Int, ns.length ≤ 63 → ∃ S, defS 11 m_law [.scr ns] [] = .ok (.bl true) S := fun ns _ => by
  obtain ⟨a, S', e, rfl⟩ := (law_we ns).get
  exact ⟨S', e⟩
end K01
open PySem PySem.W PyProof.Rows
set_option maxRecDepth 100000 in
set_option maxHeartbeats 0 in
theorem PySem.Challenge.cw_waysagree_k01_errors_by_themselves_holds : PySem.Challenge.rw_waysagree_k01_errors_by_themselves.Holds := by
  w_on; o_law; k_head; (case hw => w_witness2)
  k_fill
  refine Z.walkZ (l := PySem.Challenge.rw_waysagree_k01_errors_by_themselves) (k := 14) (x := "_law_script") rfl rfl ⟨rfl, by decide, by decide⟩ (fun w h Y => PySem.W.kIn_of Y) ?F
  case F =>
    intro w mg fa h KX G hmg
    refine' K01.all_mk K01.law_ok KX G hmg ?h__law_all ?l__law_all ?c__law_all ?k__law_all ?h__law_bag ?l__law_bag ?c__law_bag ?k__law_bag ?h__law_field ?l__law_field ?c__law_field ?k__law_field ?h__law_flags ?l__law_flags ?c__law_flags ?k__law_flags ?h__law_pick ?l__law_pick ?c__law_pick ?k__law_pick ?h__law_of ?l__law_of ?c__law_of ?k__law_of ?h__law_same ?l__law_same ?c__law_same ?k__law_same ?h_law ?l_law ?c_law ?k_law ?h_WayError ?h_Missing ?h_InvalidRatio ?h_InvalidWorld ?h_InvalidElement ?h_InvalidText ?h_InvalidProgram ?h_InvalidPlan ?h_EmptyLoop ?h_InvalidStep ?h_InvalidReader ?h_WorldsDiffer ?h_TooMany ?h_InvalidName ?h_WrongKind ?h_CircularName ?h_InUse ?h_Breaks ?h_CapacityExceeded ?h_InvalidLimit ?h_InvalidCommand ?h_InvalidPage ?h_UnknownName ?h_NothingLeft ?kx_Breaks ?kx_CapacityExceeded ?kx_CircularName ?kx_EmptyLoop ?kx_InUse ?kx_IndexError ?kx_InvalidCommand ?kx_InvalidElement ?kx_InvalidLimit ?kx_InvalidName ?kx_InvalidPage ?kx_InvalidPlan ?kx_InvalidProgram ?kx_InvalidRatio ?kx_InvalidReader ?kx_InvalidStep ?kx_InvalidText ?kx_InvalidWorld ?kx_LookupError ?kx_Missing ?kx_NothingLeft ?kx_TooMany ?kx_UnknownName ?kx_ValueError ?kx_WayError ?kx_WorldsDiffer ?kx_WrongKind ?xj_InvalidRatio ?FN_InvalidRatio ?xj_WayError ?FN_WayError ?xj_InvalidWorld ?FN_InvalidWorld ?xj_InvalidElement ?FN_InvalidElement ?xj_InvalidText ?FN_InvalidText ?xj_InvalidProgram ?FN_InvalidProgram ?xj_InvalidPlan ?FN_InvalidPlan ?xj_EmptyLoop ?FN_EmptyLoop ?xj_InvalidStep ?FN_InvalidStep ?xj_InvalidReader ?FN_InvalidReader ?xj_WorldsDiffer ?FN_WorldsDiffer ?xj_TooMany ?FN_TooMany ?xj_InvalidName ?FN_InvalidName ?xj_WrongKind ?FN_WrongKind ?xj_CircularName ?FN_CircularName ?xj_InUse ?FN_InUse ?xj_Breaks ?FN_Breaks ?xj_CapacityExceeded ?FN_CapacityExceeded ?xj_InvalidLimit ?FN_InvalidLimit ?xj_InvalidCommand ?FN_InvalidCommand ?xj_InvalidPage ?FN_InvalidPage ?xj_UnknownName ?FN_UnknownName ?xj_Missing ?FN_Missing ?xj_NothingLeft ?FN_NothingLeft ?xb_InvalidRatio ?xb_InvalidWorld ?xb_InvalidElement ?xb_InvalidText ?xb_InvalidProgram ?xb_InvalidPlan ?xb_EmptyLoop ?xb_InvalidStep ?xb_InvalidReader ?xb_WorldsDiffer ?xb_TooMany ?xb_InvalidName ?xb_WrongKind ?xb_CircularName ?xb_InUse ?xb_Breaks ?xb_CapacityExceeded ?xb_InvalidLimit ?xb_InvalidCommand ?xb_InvalidPage ?xb_UnknownName ?xb_NothingLeft ?b_super ?tp_any ?top_super ?b_IndexError ?b_LookupError ?b_ValueError ?b_all ?b_bool ?b_enumerate ?b_int ?b_isinstance ?b_len ?b_list ?b_range ?b_str ?b_tuple ?b_zip
    (case h__law_all => k_is)
    (case l__law_all => k_is)
    (case c__law_all => k_is)
    (case k__law_all => k_is)
    (case h__law_bag => k_is)
    (case l__law_bag => k_is)
    (case c__law_bag => k_is)
    (case k__law_bag => k_is)
    (case h__law_field => k_is)
    (case l__law_field => k_is)
    (case c__law_field => k_is)
    (case k__law_field => k_is)
    (case h__law_flags => k_is)
    (case l__law_flags => k_is)
    (case c__law_flags => k_is)
    (case k__law_flags => k_is)
    (case h__law_pick => k_is)
    (case l__law_pick => k_is)
    (case c__law_pick => k_is)
    (case k__law_pick => k_is)
    (case h__law_of => k_is)
    (case l__law_of => k_is)
    (case c__law_of => k_is)
    (case k__law_of => k_is)
    (case h__law_same => k_is)
    (case l__law_same => k_is)
    (case c__law_same => k_is)
    (case k__law_same => k_is)
    (case h_law => k_is)
    (case l_law => k_is)
    (case c_law => k_is)
    (case k_law => k_is)
    (case h_WayError => k_is)
    (case h_Missing => k_is)
    (case h_InvalidRatio => k_is)
    (case h_InvalidWorld => k_is)
    (case h_InvalidElement => k_is)
    (case h_InvalidText => k_is)
    (case h_InvalidProgram => k_is)
    (case h_InvalidPlan => k_is)
    (case h_EmptyLoop => k_is)
    (case h_InvalidStep => k_is)
    (case h_InvalidReader => k_is)
    (case h_WorldsDiffer => k_is)
    (case h_TooMany => k_is)
    (case h_InvalidName => k_is)
    (case h_WrongKind => k_is)
    (case h_CircularName => k_is)
    (case h_InUse => k_is)
    (case h_Breaks => k_is)
    (case h_CapacityExceeded => k_is)
    (case h_InvalidLimit => k_is)
    (case h_InvalidCommand => k_is)
    (case h_InvalidPage => k_is)
    (case h_UnknownName => k_is)
    (case h_NothingLeft => k_is)
    (case kx_Breaks => kernel_rfl)
    (case kx_CapacityExceeded => kernel_rfl)
    (case kx_CircularName => kernel_rfl)
    (case kx_EmptyLoop => kernel_rfl)
    (case kx_InUse => kernel_rfl)
    (case kx_IndexError => kernel_rfl)
    (case kx_InvalidCommand => kernel_rfl)
    (case kx_InvalidElement => kernel_rfl)
    (case kx_InvalidLimit => kernel_rfl)
    (case kx_InvalidName => kernel_rfl)
    (case kx_InvalidPage => kernel_rfl)
    (case kx_InvalidPlan => kernel_rfl)
    (case kx_InvalidProgram => kernel_rfl)
    (case kx_InvalidRatio => kernel_rfl)
    (case kx_InvalidReader => kernel_rfl)
    (case kx_InvalidStep => kernel_rfl)
    (case kx_InvalidText => kernel_rfl)
    (case kx_InvalidWorld => kernel_rfl)
    (case kx_LookupError => kernel_rfl)
    (case kx_Missing => kernel_rfl)
    (case kx_NothingLeft => kernel_rfl)
    (case kx_TooMany => kernel_rfl)
    (case kx_UnknownName => kernel_rfl)
    (case kx_ValueError => kernel_rfl)
    (case kx_WayError => kernel_rfl)
    (case kx_WorldsDiffer => kernel_rfl)
    (case kx_WrongKind => kernel_rfl)
    (case xj_InvalidRatio => k_is)
    (case FN_InvalidRatio => (refine' Z.supfn_of ?g1 ?g2 ?g3 ?g4 ?g5 ?g6 ?g7 ?g8; (case g1 => k_is); (case g2 => k_is); (case g3 => k_is); (case g4 => rfl); (case g5 => decide +kernel); (case g6 => k_is); (case g7 => k_is); (case g8 => kernel_rfl)))
    (case xj_WayError => k_is)
    (case FN_WayError => (refine' Z.supfn_of ?g1 ?g2 ?g3 ?g4 ?g5 ?g6 ?g7 ?g8; (case g1 => k_is); (case g2 => k_is); (case g3 => k_is); (case g4 => rfl); (case g5 => decide +kernel); (case g6 => k_is); (case g7 => k_is); (case g8 => kernel_rfl)))
    (case xj_InvalidWorld => k_is)
    (case FN_InvalidWorld => (refine' Z.supfn_of ?g1 ?g2 ?g3 ?g4 ?g5 ?g6 ?g7 ?g8; (case g1 => k_is); (case g2 => k_is); (case g3 => k_is); (case g4 => rfl); (case g5 => decide +kernel); (case g6 => k_is); (case g7 => k_is); (case g8 => kernel_rfl)))
    (case xj_InvalidElement => k_is)
    (case FN_InvalidElement => (refine' Z.supfn_of ?g1 ?g2 ?g3 ?g4 ?g5 ?g6 ?g7 ?g8; (case g1 => k_is); (case g2 => k_is); (case g3 => k_is); (case g4 => rfl); (case g5 => decide +kernel); (case g6 => k_is); (case g7 => k_is); (case g8 => kernel_rfl)))
    (case xj_InvalidText => k_is)
    (case FN_InvalidText => (refine' Z.supfn_of ?g1 ?g2 ?g3 ?g4 ?g5 ?g6 ?g7 ?g8; (case g1 => k_is); (case g2 => k_is); (case g3 => k_is); (case g4 => rfl); (case g5 => decide +kernel); (case g6 => k_is); (case g7 => k_is); (case g8 => kernel_rfl)))
    (case xj_InvalidProgram => k_is)
    (case FN_InvalidProgram => (refine' Z.supfn_of ?g1 ?g2 ?g3 ?g4 ?g5 ?g6 ?g7 ?g8; (case g1 => k_is); (case g2 => k_is); (case g3 => k_is); (case g4 => rfl); (case g5 => decide +kernel); (case g6 => k_is); (case g7 => k_is); (case g8 => kernel_rfl)))
    (case xj_InvalidPlan => k_is)
    (case FN_InvalidPlan => (refine' Z.supfn_of ?g1 ?g2 ?g3 ?g4 ?g5 ?g6 ?g7 ?g8; (case g1 => k_is); (case g2 => k_is); (case g3 => k_is); (case g4 => rfl); (case g5 => decide +kernel); (case g6 => k_is); (case g7 => k_is); (case g8 => kernel_rfl)))
    (case xj_EmptyLoop => k_is)
    (case FN_EmptyLoop => (refine' Z.supfn_of ?g1 ?g2 ?g3 ?g4 ?g5 ?g6 ?g7 ?g8; (case g1 => k_is); (case g2 => k_is); (case g3 => k_is); (case g4 => rfl); (case g5 => decide +kernel); (case g6 => k_is); (case g7 => k_is); (case g8 => kernel_rfl)))
    (case xj_InvalidStep => k_is)
    (case FN_InvalidStep => (refine' Z.supfn_of ?g1 ?g2 ?g3 ?g4 ?g5 ?g6 ?g7 ?g8; (case g1 => k_is); (case g2 => k_is); (case g3 => k_is); (case g4 => rfl); (case g5 => decide +kernel); (case g6 => k_is); (case g7 => k_is); (case g8 => kernel_rfl)))
    (case xj_InvalidReader => k_is)
    (case FN_InvalidReader => (refine' Z.supfn_of ?g1 ?g2 ?g3 ?g4 ?g5 ?g6 ?g7 ?g8; (case g1 => k_is); (case g2 => k_is); (case g3 => k_is); (case g4 => rfl); (case g5 => decide +kernel); (case g6 => k_is); (case g7 => k_is); (case g8 => kernel_rfl)))
    (case xj_WorldsDiffer => k_is)
    (case FN_WorldsDiffer => (refine' Z.supfn_of ?g1 ?g2 ?g3 ?g4 ?g5 ?g6 ?g7 ?g8; (case g1 => k_is); (case g2 => k_is); (case g3 => k_is); (case g4 => rfl); (case g5 => decide +kernel); (case g6 => k_is); (case g7 => k_is); (case g8 => kernel_rfl)))
    (case xj_TooMany => k_is)
    (case FN_TooMany => (refine' Z.supfn_of ?g1 ?g2 ?g3 ?g4 ?g5 ?g6 ?g7 ?g8; (case g1 => k_is); (case g2 => k_is); (case g3 => k_is); (case g4 => rfl); (case g5 => decide +kernel); (case g6 => k_is); (case g7 => k_is); (case g8 => kernel_rfl)))
    (case xj_InvalidName => k_is)
    (case FN_InvalidName => (refine' Z.supfn_of ?g1 ?g2 ?g3 ?g4 ?g5 ?g6 ?g7 ?g8; (case g1 => k_is); (case g2 => k_is); (case g3 => k_is); (case g4 => rfl); (case g5 => decide +kernel); (case g6 => k_is); (case g7 => k_is); (case g8 => kernel_rfl)))
    (case xj_WrongKind => k_is)
    (case FN_WrongKind => (refine' Z.supfn_of ?g1 ?g2 ?g3 ?g4 ?g5 ?g6 ?g7 ?g8; (case g1 => k_is); (case g2 => k_is); (case g3 => k_is); (case g4 => rfl); (case g5 => decide +kernel); (case g6 => k_is); (case g7 => k_is); (case g8 => kernel_rfl)))
    (case xj_CircularName => k_is)
    (case FN_CircularName => (refine' Z.supfn_of ?g1 ?g2 ?g3 ?g4 ?g5 ?g6 ?g7 ?g8; (case g1 => k_is); (case g2 => k_is); (case g3 => k_is); (case g4 => rfl); (case g5 => decide +kernel); (case g6 => k_is); (case g7 => k_is); (case g8 => kernel_rfl)))
    (case xj_InUse => k_is)
    (case FN_InUse => (refine' Z.supfn_of ?g1 ?g2 ?g3 ?g4 ?g5 ?g6 ?g7 ?g8; (case g1 => k_is); (case g2 => k_is); (case g3 => k_is); (case g4 => rfl); (case g5 => decide +kernel); (case g6 => k_is); (case g7 => k_is); (case g8 => kernel_rfl)))
    (case xj_Breaks => k_is)
    (case FN_Breaks => (refine' Z.supfn_of ?g1 ?g2 ?g3 ?g4 ?g5 ?g6 ?g7 ?g8; (case g1 => k_is); (case g2 => k_is); (case g3 => k_is); (case g4 => rfl); (case g5 => decide +kernel); (case g6 => k_is); (case g7 => k_is); (case g8 => kernel_rfl)))
    (case xj_CapacityExceeded => k_is)
    (case FN_CapacityExceeded => (refine' Z.supfn_of ?g1 ?g2 ?g3 ?g4 ?g5 ?g6 ?g7 ?g8; (case g1 => k_is); (case g2 => k_is); (case g3 => k_is); (case g4 => rfl); (case g5 => decide +kernel); (case g6 => k_is); (case g7 => k_is); (case g8 => kernel_rfl)))
    (case xj_InvalidLimit => k_is)
    (case FN_InvalidLimit => (refine' Z.supfn_of ?g1 ?g2 ?g3 ?g4 ?g5 ?g6 ?g7 ?g8; (case g1 => k_is); (case g2 => k_is); (case g3 => k_is); (case g4 => rfl); (case g5 => decide +kernel); (case g6 => k_is); (case g7 => k_is); (case g8 => kernel_rfl)))
    (case xj_InvalidCommand => k_is)
    (case FN_InvalidCommand => (refine' Z.supfn_of ?g1 ?g2 ?g3 ?g4 ?g5 ?g6 ?g7 ?g8; (case g1 => k_is); (case g2 => k_is); (case g3 => k_is); (case g4 => rfl); (case g5 => decide +kernel); (case g6 => k_is); (case g7 => k_is); (case g8 => kernel_rfl)))
    (case xj_InvalidPage => k_is)
    (case FN_InvalidPage => (refine' Z.supfn_of ?g1 ?g2 ?g3 ?g4 ?g5 ?g6 ?g7 ?g8; (case g1 => k_is); (case g2 => k_is); (case g3 => k_is); (case g4 => rfl); (case g5 => decide +kernel); (case g6 => k_is); (case g7 => k_is); (case g8 => kernel_rfl)))
    (case xj_UnknownName => k_is)
    (case FN_UnknownName => (refine' Z.supfn_of ?g1 ?g2 ?g3 ?g4 ?g5 ?g6 ?g7 ?g8; (case g1 => k_is); (case g2 => k_is); (case g3 => k_is); (case g4 => rfl); (case g5 => decide +kernel); (case g6 => k_is); (case g7 => k_is); (case g8 => kernel_rfl)))
    (case xj_Missing => k_is)
    (case FN_Missing => (refine' Z.supfn_of ?g1 ?g2 ?g3 ?g4 ?g5 ?g6 ?g7 ?g8; (case g1 => k_is); (case g2 => k_is); (case g3 => k_is); (case g4 => rfl); (case g5 => decide +kernel); (case g6 => k_is); (case g7 => k_is); (case g8 => kernel_rfl)))
    (case xj_NothingLeft => k_is)
    (case FN_NothingLeft => (refine' Z.supfn_of ?g1 ?g2 ?g3 ?g4 ?g5 ?g6 ?g7 ?g8; (case g1 => k_is); (case g2 => k_is); (case g3 => k_is); (case g4 => rfl); (case g5 => decide +kernel); (case g6 => k_is); (case g7 => k_is); (case g8 => kernel_rfl)))
    (case xb_InvalidRatio => kernel_rfl)
    (case xb_InvalidWorld => kernel_rfl)
    (case xb_InvalidElement => kernel_rfl)
    (case xb_InvalidText => kernel_rfl)
    (case xb_InvalidProgram => kernel_rfl)
    (case xb_InvalidPlan => kernel_rfl)
    (case xb_EmptyLoop => kernel_rfl)
    (case xb_InvalidStep => kernel_rfl)
    (case xb_InvalidReader => kernel_rfl)
    (case xb_WorldsDiffer => kernel_rfl)
    (case xb_TooMany => kernel_rfl)
    (case xb_InvalidName => kernel_rfl)
    (case xb_WrongKind => kernel_rfl)
    (case xb_CircularName => kernel_rfl)
    (case xb_InUse => kernel_rfl)
    (case xb_Breaks => kernel_rfl)
    (case xb_CapacityExceeded => kernel_rfl)
    (case xb_InvalidLimit => kernel_rfl)
    (case xb_InvalidCommand => kernel_rfl)
    (case xb_InvalidPage => kernel_rfl)
    (case xb_UnknownName => kernel_rfl)
    (case xb_NothingLeft => kernel_rfl)
    (case b_super => k_is)
    (case tp_any => k_is)
    (case top_super => rfl)
    (case b_IndexError => k_is)
    (case b_LookupError => k_is)
    (case b_ValueError => k_is)
    (case b_all => k_is)
    (case b_bool => k_is)
    (case b_enumerate => k_is)
    (case b_int => k_is)
    (case b_isinstance => k_is)
    (case b_len => k_is)
    (case b_list => k_is)
    (case b_range => k_is)
    (case b_str => k_is)
    (case b_tuple => k_is)
    (case b_zip => k_is)
